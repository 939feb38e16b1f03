import PyProof.Rows.All
import Wide.All
import OpenK.AllK
import Wide.FinOn
import HandS.ForMost
import HandS.Wide
import HandS.IsInst
import HandS.TupAny
import PyProof.AutoListH
import PyProof.ListMulRoad
import HandS.Deep
import HandS.Style
import PyProof.P3In
import HandS.Conv
import HandS.RaiseMore
import PyProof.ReprRoads
import PyProof.ReprRoom
import HandS.Walk
import HandS.Zip
import HandS.HeadHook1
import HandS.HeadHook2
import HandS.Head2
import HandS.HeadEnd
import HandS.Exc
import HandS.ExcOwn
import HandS.Words
import HandS.WordsExc
import HandS.Defaults
import KE.GoesNew
import PyProof.P3Eq
import KE.SortData
import HandS.SortInts
import HandS.Small
import KE.DataMinMax
import HandS.SortKw
import HandS.TryOnly
import HandS.SetFor
import HandS.Strs
import HandS.More
import HandS.Codes
import HandS.HeadHook4
import KE.GoesEnum
import PyProof.EnumMake
import HandS.TupMul
import KE.DataCmp
import PySem.Challenge.RW_frameshare_k29_which_are_least
set_option Elab.async false
set_option linter.all false
set_option maxRecDepth 100000
set_option maxHeartbeats 4000000
namespace FM
open PySem L2

abbrev PD := PyData
abbrev Frag := PySem.W.Frag

def keyD : Key → PD
  | .inl i => .int i
  | .inr x => .str x
def kp (p : Key × PD) : PD × PD := (keyD p.1, p.2)
def tp (p : List Key × PD) : PD × PD := (.tuple (p.1.map keyD), p.2)

/-! ### frozen data: what stands at F -/
mutual
inductive Rep (K : Frag) (F : Hp) : V → PD → Prop
  | non : Rep K F .non .none
  | bl (b : Bool) : Rep K F (.bl b) (.bool b)
  | int (i : Int) : Rep K F (.int i) (.int i)
  | str (x : Str) : Rep K F (.str x) (.str x)
  | lst {a : Addr} {vs : List V} {ds : List PD} : SqL K F a vs → Reps K F vs ds → Rep K F (.ref a) (.list ds)
  | tup {a : Addr} {vs : List V} {ds : List PD} : F a = some (.tup vs) → Reps K F vs ds → Rep K F (.ref a) (.tuple ds)
  | dic {a : Addr} {kvs : List (Key × V)} {ds : List (Key × PD)} {pd : PD} : Rd F a (.dK kvs) → RepK K F kvs ds → pd = .dict (ds.map kp) → Rep K F (.ref a) pd
  | dit {a : Addr} {kvs : List (List Key × V)} {ds : List (List Key × PD)} {pd : PD} : Rd F a (.dT kvs) → RepT K F kvs ds → pd = .dict (ds.map tp) → Rep K F (.ref a) pd
inductive Reps (K : Frag) (F : Hp) : List V → List PD → Prop
  | nil : Reps K F [] []
  | cons {v : V} {d : PD} {vs : List V} {ds : List PD} : Rep K F v d → Reps K F vs ds → Reps K F (v :: vs) (d :: ds)
inductive RepK (K : Frag) (F : Hp) : List (Key × V) → List (Key × PD) → Prop
  | nil : RepK K F [] []
  | cons {k : Key} {v : V} {d : PD} {vs : List (Key × V)} {ds : List (Key × PD)} : Rep K F v d → RepK K F vs ds → RepK K F ((k, v) :: vs) ((k, d) :: ds)
inductive RepT (K : Frag) (F : Hp) : List (List Key × V) → List (List Key × PD) → Prop
  | nil : RepT K F [] []
  | cons {k : List Key} {v : V} {d : PD} {vs : List (List Key × V)} {ds : List (List Key × PD)} : Rep K F v d → RepT K F vs ds → RepT K F ((k, v) :: vs) ((k, d) :: ds)
end

theorem rd_sub {F F' : Hp} {a : Addr} {u : HO} (s : Same F F') (h : Rd F a u) : Rd F' a u := by
  rcases h with h | ⟨o, h⟩
  · exact .inl (s _ _ h)
  · exact .inr ⟨o, s _ _ h⟩
theorem sqL_sub {K : Frag} {F F' : Hp} {a : Addr} {vs : List V} (s : Same F F') (h : SqL K F a vs) : SqL K F' a vs := h.imp (rd_sub s) id
theorem sqT_sub {K : Frag} {F F' : Hp} {a : Addr} {vs : List V} (s : Same F F') (h : SqT K F a vs) : SqT K F' a vs := h.imp (rd_sub s) id

mutual
theorem Rep.sub {K : Frag} {F F' : Hp} (s : Same F F') : ∀ {v : V} {d : PD}, Rep K F v d → Rep K F' v d
  | _, _, .non => .non
  | _, _, .bl b => .bl b
  | _, _, .int i => .int i
  | _, _, .str x => .str x
  | _, _, .lst h r => .lst (sqL_sub s h) (Reps.sub s r)
  | _, _, .tup h r => .tup (s _ _ h) (Reps.sub s r)
  | _, _, .dic h r e => .dic (rd_sub s h) (RepK.sub s r) e
  | _, _, .dit h r e => .dit (rd_sub s h) (RepT.sub s r) e
theorem Reps.sub {K : Frag} {F F' : Hp} (s : Same F F') : ∀ {v : List V} {d : List PD}, Reps K F v d → Reps K F' v d
  | _, _, .nil => .nil
  | _, _, .cons h r => .cons (Rep.sub s h) (Reps.sub s r)
theorem RepK.sub {K : Frag} {F F' : Hp} (s : Same F F') : ∀ {v : List (Key × V)} {d : List (Key × PD)}, RepK K F v d → RepK K F' v d
  | _, _, .nil => .nil
  | _, _, .cons h r => .cons (Rep.sub s h) (RepK.sub s r)
theorem RepT.sub {K : Frag} {F F' : Hp} (s : Same F F') : ∀ {v : List (List Key × V)} {d : List (List Key × PD)}, RepT K F v d → RepT K F' v d
  | _, _, .nil => .nil
  | _, _, .cons h r => .cons (Rep.sub s h) (RepT.sub s r)
end

/-- F is a part of H, but for locks -/
def FLe (F H : Hp) : Prop := ∀ a u, F a = some u → H a = some u ∨ (Mut (some u) ∧ ∃ o, H a = some (.frz o u))
theorem rd_le {F H : Hp} {a : Addr} {u : HO} (s : FLe F H) (h : Rd F a u) : Rd H a u := by
  rcases h with h | ⟨o, h⟩
  · rcases s _ _ h with q | ⟨_, o, q⟩
    · exact .inl q
    · exact .inr ⟨o, q⟩
  · rcases s _ _ h with q | ⟨m, _⟩
    · exact .inr ⟨o, q⟩
    · exact m.elim
theorem tup_le {F H : Hp} {a : Addr} {vs : List V} (s : FLe F H) (h : F a = some (.tup vs)) : H a = some (.tup vs) := by
  rcases s _ _ h with q | ⟨m, _⟩
  · exact q
  · exact m.elim
theorem sqL_le {K : Frag} {F H : Hp} {a : Addr} {vs : List V} (s : FLe F H) (h : SqL K F a vs) : SqL K H a vs := h.imp (rd_le s) id
theorem sqT_le {K : Frag} {F H : Hp} {a : Addr} {vs : List V} (s : FLe F H) (h : SqT K F a vs) : SqT K H a vs := h.imp (rd_le s) id

/-- a tuple of ints and texts alone -/
def gnd (u : HO) : Prop := ∃ k : List Key, u = .tup (k.map kV)
/-- something stands at a that is no such tuple -/
def Th (H : Hp) (a : Addr) : Prop := H a ≠ none ∧ ∀ u, gnd u → H a ≠ some u
/-- the heap has grown -/
structure Xt (F H F' H' : Hp) : Prop where
  ex : Same H H'
  sub : Same F F'
  fle : FLe F' H'
  fresh : ∀ a u, F' a = some u → F a = some u ∨ H a = none ∨ (gnd u ∧ H a = some u)
theorem Xt.refl {F H : Hp} (h : FLe F H) : Xt F H F H := ⟨Same.refl _, Same.refl _, h, fun _ _ e => .inl e⟩
theorem none_back {H H' : Hp} (s : Same H H') {a : Addr} (h : H' a = none) : H a = none := s.free h
theorem Xt.trans {F H F1 H1 F2 H2 : Hp} (x : Xt F H F1 H1) (y : Xt F1 H1 F2 H2) : Xt F H F2 H2 :=
  ⟨x.ex.trans y.ex, x.sub.trans y.sub, y.fle, fun a u e => by
    rcases y.fresh a u e with q | q | ⟨g, q⟩
    · exact x.fresh a u q
    · exact .inr (.inl (none_back x.ex q))
    · cases w : H a with
      | none => exact .inr (.inl rfl)
      | some z =>
        have := x.ex a z w
        rw [q] at this
        cases this
        exact .inr (.inr ⟨g, rfl⟩)⟩
theorem FLe.ex {F H H' : Hp} (f : FLe F H) (s : Same H H') : FLe F H' := fun a u e => by
  rcases f a u e with q | ⟨m, o, q⟩
  · exact .inl (s _ _ q)
  · exact .inr ⟨m, o, s _ _ q⟩
theorem same_upd {H : Hp} {p : Addr} {o : HO} (h : H p = none) : Same H (upd H p o) := fun a u e => by
  rw [upd_ne (ne_of_none e h)]
  exact e
/-- a new frozen object -/
theorem Xt.new {F H : Hp} {p : Addr} {o : HO} (f : FLe F H) (h : H p = none) : Xt F H (upd F p o) (upd H p o) := by
  have hF : F p = none := by
    cases e : F p with
    | none => rfl
    | some u =>
      rcases f p u e with q | ⟨_, o, q⟩
      · rw [h] at q; cases q
      · rw [h] at q; cases q
  refine ⟨same_upd h, same_upd hF, fun a u e => ?_, fun a u e => ?_⟩
  · by_cases ha : a = p
    · subst ha
      rw [upd_same] at e ⊢
      exact .inl e
    · rw [upd_ne ha] at e ⊢
      exact f a u e
  · by_cases ha : a = p
    · subst ha
      exact .inr (.inl h)
    · rw [upd_ne ha] at e
      exact .inl e
/-- a new object, not frozen -/
theorem Xt.own {F H : Hp} {p : Addr} {o : HO} (f : FLe F H) (h : H p = none) : Xt F H F (upd H p o) := ⟨same_upd h, Same.refl _, f.ex (same_upd h), fun _ _ e => .inl e⟩
theorem fle_none {F H : Hp} {p : Addr} (f : FLe F H) (h : H p = none) : F p = none := by
  cases e : F p with
  | none => rfl
  | some u =>
    rcases f p u e with q | ⟨_, o, q⟩
    · rw [h] at q; cases q
    · rw [h] at q; cases q

/-! ### owned things -/
inductive O where
  | fz (d : PD)
  | lst (ds : List PD)
  | dic (kvs : List (Key × PD))
  | dit (kvs : List (List Key × PD))
  | nst (os : List O)
  | ntp (os : List O)
  | ndc (kvs : List (Key × O))
  | ins (c : Nat) (fs : List (Str × O))
  | ktp (ds : List PD)
  | dead
instance : Inhabited O := ⟨.dead⟩

/-- K: the written part; cl: the classes' addresses -/
structure Kc where
  K : Frag
  cl : Nat → Addr

mutual
inductive Own (k : Kc) (F H : Hp) : V → O → List Addr → Prop
  | fz {v : V} {d : PD} : Rep k.K F v d → Own k F H v (.fz d) []
  | lst {a : Addr} {vs : List V} {ds : List PD} : Rd H a (.lst vs) → Reps k.K F vs ds → Own k F H (.ref a) (.lst ds) [a]
  | dic {a : Addr} {vs : List (Key × V)} {ds : List (Key × PD)} : Rd H a (.dK vs) → RepK k.K F vs ds → Own k F H (.ref a) (.dic ds) [a]
  | dit {a : Addr} {vs : List (List Key × V)} {ds : List (List Key × PD)} : Rd H a (.dT vs) → RepT k.K F vs ds → Own k F H (.ref a) (.dit ds) [a]
  | nst {a : Addr} {vs : List V} {os : List O} {S : List Addr} : Rd H a (.lst vs) → Owns k F H vs os S → Own k F H (.ref a) (.nst os) (a :: S)
  | ntp {a : Addr} {vs : List V} {os : List O} {S : List Addr} : H a = some (.tup vs) → (∀ z : List Key, vs ≠ z.map kV) → Owns k F H vs os S → Own k F H (.ref a) (.ntp os) (a :: S)
  | ndc {a : Addr} {vs : List (Key × V)} {os : List (Key × O)} {S : List Addr} : Rd H a (.dK vs) → OwnK k F H vs os S → Own k F H (.ref a) (.ndc os) (a :: S)
  | ins {a dx : Addr} {c : Nat} {vs : List (Str × V)} {os : List (Str × O)} {S : List Addr} : H a = some (.ins (k.cl c) dx vs) → OwnF k F H vs os S → Own k F H (.ref a) (.ins c os) (a :: S)
  | ktp {a : Addr} {vs : List V} {ds : List PD} : (∀ G, SqT k.K G a vs) → Reps k.K F vs ds → Own k F H (.ref a) (.ktp ds) []
  | dead {v : V} : Own k F H v .dead []
inductive Owns (k : Kc) (F H : Hp) : List V → List O → List Addr → Prop
  | nil : Owns k F H [] [] []
  | cons {v : V} {o : O} {vs : List V} {os : List O} {S T : List Addr} : Own k F H v o S → Owns k F H vs os T → Owns k F H (v :: vs) (o :: os) (S ++ T)
inductive OwnK (k : Kc) (F H : Hp) : List (Key × V) → List (Key × O) → List Addr → Prop
  | nil : OwnK k F H [] [] []
  | cons {x : Key} {v : V} {o : O} {vs : List (Key × V)} {os : List (Key × O)} {S T : List Addr} : Own k F H v o S → OwnK k F H vs os T → OwnK k F H ((x, v) :: vs) ((x, o) :: os) (S ++ T)
inductive OwnF (k : Kc) (F H : Hp) : List (Str × V) → List (Str × O) → List Addr → Prop
  | nil : OwnF k F H [] [] []
  | cons {x : Str} {v : V} {o : O} {vs : List (Str × V)} {os : List (Str × O)} {S T : List Addr} : Own k F H v o S → OwnF k F H vs os T → OwnF k F H ((x, v) :: vs) ((x, o) :: os) (S ++ T)
end

/-- what stands at S is the same -/
def At (S : List Addr) (H H' : Hp) : Prop := ∀ a ∈ S, ∀ u, H a = some u → H' a = some u
theorem At.of {S : List Addr} {H H' : Hp} (s : Same H H') : At S H H' := fun a _ u e => s a u e
theorem At.mono {S T : List Addr} {H H' : Hp} (h : ∀ a ∈ S, a ∈ T) (t : At T H H') : At S H H' := fun a m => t a (h a m)
theorem At.left {S T : List Addr} {H H' : Hp} (t : At (S ++ T) H H') : At S H H' := t.mono fun _ m => List.mem_append_left _ m
theorem At.right {S T : List Addr} {H H' : Hp} (t : At (S ++ T) H H') : At T H H' := t.mono fun _ m => List.mem_append_right _ m
theorem At.tail {a : Addr} {T : List Addr} {H H' : Hp} (t : At (a :: T) H H') : At T H H' := t.mono fun _ m => List.mem_cons_of_mem _ m
theorem At.rd {S : List Addr} {H H' : Hp} {a : Addr} {u : HO} (t : At S H H') (m : a ∈ S) (h : Rd H a u) : Rd H' a u := by
  rcases h with h | ⟨o, h⟩
  · exact .inl (t a m _ h)
  · exact .inr ⟨o, t a m _ h⟩

mutual
theorem Own.mono {k : Kc} {F F' H H' : Hp} (s : Same F F') : ∀ {v : V} {o : O} {S : List Addr}, At S H H' → Own k F H v o S → Own k F' H' v o S
  | _, _, _, _, .fz h => .fz (h.sub s)
  | _, _, _, t, .lst h r => .lst (t.rd (by simp) h) (r.sub s)
  | _, _, _, t, .dic h r => .dic (t.rd (by simp) h) (r.sub s)
  | _, _, _, t, .dit h r => .dit (t.rd (by simp) h) (r.sub s)
  | _, _, _, t, .nst h r => .nst (t.rd (by simp) h) (Owns.mono s t.tail r)
  | _, _, _, t, .ntp h g r => .ntp (t _ (by simp) _ h) g (Owns.mono s t.tail r)
  | _, _, _, t, .ndc h r => .ndc (t.rd (by simp) h) (OwnK.mono s t.tail r)
  | _, _, _, t, .ins h r => .ins (t _ (by simp) _ h) (OwnF.mono s t.tail r)
  | _, _, _, _, .ktp h r => .ktp h (r.sub s)
  | _, _, _, _, .dead => .dead
theorem Owns.mono {k : Kc} {F F' H H' : Hp} (s : Same F F') : ∀ {v : List V} {o : List O} {S : List Addr}, At S H H' → Owns k F H v o S → Owns k F' H' v o S
  | _, _, _, _, .nil => .nil
  | _, _, _, t, .cons h r => .cons (Own.mono s t.left h) (Owns.mono s t.right r)
theorem OwnK.mono {k : Kc} {F F' H H' : Hp} (s : Same F F') : ∀ {v : List (Key × V)} {o : List (Key × O)} {S : List Addr}, At S H H' → OwnK k F H v o S → OwnK k F' H' v o S
  | _, _, _, _, .nil => .nil
  | _, _, _, t, .cons h r => .cons (Own.mono s t.left h) (OwnK.mono s t.right r)
theorem OwnF.mono {k : Kc} {F F' H H' : Hp} (s : Same F F') : ∀ {v : List (Str × V)} {o : List (Str × O)} {S : List Addr}, At S H H' → OwnF k F H v o S → OwnF k F' H' v o S
  | _, _, _, _, .nil => .nil
  | _, _, _, t, .cons h r => .cons (Own.mono s t.left h) (OwnF.mono s t.right r)
end

/-- slots -/
inductive Envs (k : Kc) (F H : Hp) : L2.St → List O → List Addr → Prop
  | nil : Envs k F H [] [] []
  | dead {x : Option V} {σ : L2.St} {ρ : List O} {S : List Addr} : Envs k F H σ ρ S → Envs k F H (x :: σ) (.dead :: ρ) S
  | cons {v : V} {o : O} {σ : L2.St} {ρ : List O} {S T : List Addr} : Own k F H v o S → Envs k F H σ ρ T → Envs k F H (some v :: σ) (o :: ρ) (S ++ T)
theorem Envs.mono {k : Kc} {F F' H H' : Hp} (s : Same F F') : ∀ {σ : L2.St} {ρ : List O} {S : List Addr}, At S H H' → Envs k F H σ ρ S → Envs k F' H' σ ρ S
  | _, _, _, _, .nil => .nil
  | _, _, _, t, .dead r => .dead (Envs.mono s t r)
  | _, _, _, t, .cons h r => .cons (Own.mono s t.left h) (Envs.mono s t.right r)
theorem Envs.length {k : Kc} {F H : Hp} : ∀ {σ : L2.St} {ρ : List O} {S : List Addr}, Envs k F H σ ρ S → σ.length = ρ.length
  | _, _, _, .nil => rfl
  | _, _, _, .dead r => congrArg (· + 1) (Envs.length r)
  | _, _, _, .cons _ r => congrArg (· + 1) (Envs.length r)

/-- a view: it may lean on what stands at S -/
def Vw (k : Kc) (F H : Hp) (S : List Addr) (v : V) (o : O) : Prop := ∃ T, (∀ a ∈ T, a ∈ S) ∧ Own k F H v o T
inductive Vws (k : Kc) (F H : Hp) (S : List Addr) : List V → List O → Prop
  | nil : Vws k F H S [] []
  | cons {v : V} {o : O} {vs : List V} {os : List O} : Vw k F H S v o → Vws k F H S vs os → Vws k F H S (v :: vs) (o :: os)
theorem Vw.mono {k : Kc} {F F' H H' : Hp} {S : List Addr} {v : V} {o : O} (s : Same F F') (t : At S H H') (h : Vw k F H S v o) : Vw k F' H' S v o :=
  let ⟨T, m, q⟩ := h
  ⟨T, m, q.mono s (t.mono m)⟩
theorem Vw.xt {k : Kc} {F F' H H' : Hp} {S : List Addr} {v : V} {o : O} (x : Xt F H F' H') (h : Vw k F H S v o) : Vw k F' H' S v o := h.mono x.sub (At.of x.ex)
theorem Vws.xt {k : Kc} {F F' H H' : Hp} {S : List Addr} (x : Xt F H F' H') : ∀ {v : List V} {o : List O}, Vws k F H S v o → Vws k F' H' S v o
  | _, _, .nil => .nil
  | _, _, .cons h r => .cons (h.xt x) (Vws.xt x r)
theorem Vw.fz {k : Kc} {F H : Hp} {S : List Addr} {v : V} {d : PD} (h : Rep k.K F v d) : Vw k F H S v (.fz d) := ⟨[], ⟨(fun _ m => by cases m), .fz h⟩⟩
theorem Vw.rep {k : Kc} {F H : Hp} {S : List Addr} {v : V} {d : PD} (h : Vw k F H S v (.fz d)) : Rep k.K F v d := by
  obtain ⟨T, _, q⟩ := h
  cases q with
  | fz r => exact r
theorem Envs.xt {k : Kc} {F F' H H' : Hp} {σ : L2.St} {ρ : List O} {S : List Addr} (x : Xt F H F' H') (h : Envs k F H σ ρ S) : Envs k F' H' σ ρ S := h.mono x.sub (At.of x.ex)
theorem Envs.get {k : Kc} {F H : Hp} : ∀ {σ : L2.St} {ρ : List O} {S : List Addr} {i : Nat} {o : O}, Envs k F H σ ρ S → ρ[i]? = some o → o = .dead ∨ ∃ v, σ[i]? = some (some v) ∧ Vw k F H S v o
  | _, _, _, _, _, .nil, e => by simp at e
  | _, _, _, 0, _, .dead r, e => .inl (by simpa using e.symm)
  | _, _, _, 0, _, .cons h r, e => by
    have e' : _ = _ := Option.some.inj (by simpa using e)
    subst e'
    exact .inr ⟨_, rfl, _, fun a m => List.mem_append_left _ m, h⟩
  | _, _, _, i + 1, _, .dead r, e => by
    rcases Envs.get (i := i) r (by simpa using e) with q | ⟨v, q, w⟩
    · exact .inl q
    · exact .inr ⟨v, by simpa using q, w⟩
  | _, _, _, i + 1, _, .cons h r, e => by
    rcases Envs.get (i := i) r (by simpa using e) with q | ⟨v, q, T, m, w⟩
    · exact .inl q
    · exact .inr ⟨v, by simpa using q, T, fun a z => List.mem_append_right _ (m a z), w⟩
end FM
namespace FM
open PySem L2

/-! ### from owned to frozen -/
mutual
def toPD : O → Option PD
  | .fz d => some d
  | .lst ds => some (.list ds)
  | .dic ds => some (.dict (ds.map kp))
  | .dit ds => some (.dict (ds.map tp))
  | .nst os => (toPDs os).map .list
  | .ntp os => (toPDs os).map .tuple
  | .ndc os => (toPDk os).map fun ds => .dict (ds.map kp)
  | .ins _ _ => none
  | .ktp _ => none
  | .dead => none
def toPDs : List O → Option (List PD)
  | [] => some []
  | o :: os => match toPD o, toPDs os with
    | some d, some ds => some (d :: ds)
    | _, _ => none
def toPDk : List (Key × O) → Option (List (Key × PD))
  | [] => some []
  | (k, o) :: os => match toPD o, toPDk os with
    | some d, some ds => some ((k, d) :: ds)
    | _, _ => none
end
def over (F H : Hp) (T : List Addr) : Hp := fun a => if a ∈ T then H a else F a
theorem over_in {F H : Hp} {T : List Addr} {a : Addr} (h : a ∈ T) : over F H T a = H a := if_pos h
theorem over_out {F H : Hp} {T : List Addr} {a : Addr} (h : a ∉ T) : over F H T a = F a := if_neg h
theorem over_rd {F H : Hp} {T : List Addr} {a : Addr} {u : HO} (h : a ∈ T) (r : Rd H a u) : Rd (over F H T) a u := by
  unfold Rd
  rw [over_in h]
  exact r
theorem over_sub {F H : Hp} {T : List Addr} (off : ∀ a ∈ T, F a = none) : Same F (over F H T) := fun a u e => by
  by_cases h : a ∈ T
  · rw [off a h] at e; cases e
  · rw [over_out h]; exact e
theorem over_le {F H : Hp} {T : List Addr} (f : FLe F H) : FLe (over F H T) H := fun a u e => by
  by_cases h : a ∈ T
  · rw [over_in h] at e; exact .inl e
  · rw [over_out h] at e; exact f a u e
theorem over_fresh {F H : Hp} {T : List Addr} {a : Addr} {u : HO} (e : over F H T a = some u) : F a = some u ∨ a ∈ T := by
  by_cases h : a ∈ T
  · exact .inr h
  · rw [over_out h] at e; exact .inl e
mutual
theorem own_fz {k : Kc} {F H G : Hp} {T : List Addr} (s : Same F G) (g : ∀ a u, a ∈ T → Rd H a u → Rd G a u) (gt : ∀ a vs, a ∈ T → H a = some (.tup vs) → G a = some (.tup vs)) : ∀ {v : V} {o : O} {S : List Addr} {d : PD}, (∀ a ∈ S, a ∈ T) → Own k F H v o S → toPD o = some d → Rep k.K G v d
  | _, _, _, _, _, .fz h, e => by
    have e' := Option.some.inj e
    subst e'
    exact h.sub s
  | _, _, _, _, m, .lst h r, e => by
    have e' := Option.some.inj e
    subst e'
    exact .lst (.inl (g _ _ (m _ (by simp)) h)) (r.sub s)
  | _, _, _, _, m, .dic h r, e => by
    have e' := Option.some.inj e
    subst e'
    exact .dic (g _ _ (m _ (by simp)) h) (r.sub s) rfl
  | _, _, _, _, m, .dit h r, e => by
    have e' := Option.some.inj e
    subst e'
    exact .dit (g _ _ (m _ (by simp)) h) (r.sub s) rfl
  | _, _, _, _, m, .nst (os := os) h r, e => by
    have e : (toPDs os).map PyData.list = some _ := e
    cases q : toPDs os with
    | none => rw [q] at e; cases e
    | some ds =>
      rw [q] at e
      have e' := Option.some.inj e
      subst e'
      exact .lst (.inl (g _ _ (m _ (by simp)) h)) (owns_fz s g gt (fun a z => m a (List.mem_cons_of_mem _ z)) r q)
  | _, _, _, _, m, .ntp (os := os) h hg r, e => by
    have e : (toPDs os).map PyData.tuple = some _ := e
    cases q : toPDs os with
    | none => rw [q] at e; cases e
    | some ds =>
      rw [q] at e
      have e' := Option.some.inj e
      subst e'
      exact .tup (gt _ _ (m _ (by simp)) h) (owns_fz s g gt (fun a z => m a (List.mem_cons_of_mem _ z)) r q)
  | _, _, _, _, m, .ndc (os := os) h r, e => by
    have e : (toPDk os).map (fun ds => PyData.dict (ds.map kp)) = some _ := e
    cases q : toPDk os with
    | none => rw [q] at e; cases e
    | some ds =>
      rw [q] at e
      have e' := Option.some.inj e
      subst e'
      exact .dic (g _ _ (m _ (by simp)) h) (ownk_fz s g gt (fun a z => m a (List.mem_cons_of_mem _ z)) r q) rfl
  | _, _, _, _, _, .ins _ _, e => by cases e
  | _, _, _, _, _, .ktp _ _, e => by cases e
  | _, _, _, _, _, .dead, e => by cases e
theorem owns_fz {k : Kc} {F H G : Hp} {T : List Addr} (s : Same F G) (g : ∀ a u, a ∈ T → Rd H a u → Rd G a u) (gt : ∀ a vs, a ∈ T → H a = some (.tup vs) → G a = some (.tup vs)) : ∀ {v : List V} {o : List O} {S : List Addr} {d : List PD}, (∀ a ∈ S, a ∈ T) → Owns k F H v o S → toPDs o = some d → Reps k.K G v d
  | _, _, _, _, _, .nil, e => by
    have e' := Option.some.inj e
    subst e'
    exact .nil
  | _, _, _, _, m, .cons (o := o) (os := os) h r, e => by
    unfold toPDs at e
    cases q1 : toPD o with
    | none => rw [q1] at e; cases e
    | some d =>
      cases q2 : toPDs os with
      | none => rw [q1, q2] at e; cases e
      | some ds =>
        rw [q1, q2] at e
        have e' := Option.some.inj e
        subst e'
        exact .cons (own_fz s g gt (fun a z => m a (List.mem_append_left _ z)) h q1) (owns_fz s g gt (fun a z => m a (List.mem_append_right _ z)) r q2)
theorem ownk_fz {k : Kc} {F H G : Hp} {T : List Addr} (s : Same F G) (g : ∀ a u, a ∈ T → Rd H a u → Rd G a u) (gt : ∀ a vs, a ∈ T → H a = some (.tup vs) → G a = some (.tup vs)) : ∀ {v : List (Key × V)} {o : List (Key × O)} {S : List Addr} {d : List (Key × PD)}, (∀ a ∈ S, a ∈ T) → OwnK k F H v o S → toPDk o = some d → RepK k.K G v d
  | _, _, _, _, _, .nil, e => by
    have e' := Option.some.inj e
    subst e'
    exact .nil
  | _, _, _, _, m, .cons (o := o) (os := os) h r, e => by
    unfold toPDk at e
    cases q1 : toPD o with
    | none => rw [q1] at e; cases e
    | some d =>
      cases q2 : toPDk os with
      | none => rw [q1, q2] at e; cases e
      | some ds =>
        rw [q1, q2] at e
        have e' := Option.some.inj e
        subst e'
        exact .cons (own_fz s g gt (fun a z => m a (List.mem_append_left _ z)) h q1) (ownk_fz s g gt (fun a z => m a (List.mem_append_right _ z)) r q2)
end
/-- a view as data at the heap -/
def SubLe (F H : Hp) (G : Hp) : Prop := Same F G ∧ ∀ a u, Rd H a u → Rd G a u
theorem Own.freeze {k : Kc} {F H : Hp} {v : V} {o : O} {T : List Addr} {d : PD} (h : Own k F H v o T) (off : ∀ a ∈ T, F a = none) (e : toPD o = some d) : Rep k.K (over F H T) v d :=
  own_fz (over_sub off) (fun a u m r => over_rd m r) (fun a vs m r => by rw [over_in m]; exact r) (fun _ m => m) h e

/-! ### frozen data at the heap itself (locks looked through) -/
def eye (H : Hp) : Hp := H
mutual
theorem Rep.le {K : Frag} {F H : Hp} (s : FLe F H) : ∀ {v : V} {d : PD}, Rep K F v d → Rep K H v d
  | _, _, .non => .non
  | _, _, .bl b => .bl b
  | _, _, .int i => .int i
  | _, _, .str x => .str x
  | _, _, .lst h r => .lst (sqL_le s h) (Reps.le s r)
  | _, _, .tup h r => .tup (tup_le s h) (Reps.le s r)
  | _, _, .dic h r e => .dic (rd_le s h) (RepK.le s r) e
  | _, _, .dit h r e => .dit (rd_le s h) (RepT.le s r) e
theorem Reps.le {K : Frag} {F H : Hp} (s : FLe F H) : ∀ {v : List V} {d : List PD}, Reps K F v d → Reps K H v d
  | _, _, .nil => .nil
  | _, _, .cons h r => .cons (Rep.le s h) (Reps.le s r)
theorem RepK.le {K : Frag} {F H : Hp} (s : FLe F H) : ∀ {v : List (Key × V)} {d : List (Key × PD)}, RepK K F v d → RepK K H v d
  | _, _, .nil => .nil
  | _, _, .cons h r => .cons (Rep.le s h) (RepK.le s r)
theorem RepT.le {K : Frag} {F H : Hp} (s : FLe F H) : ∀ {v : List (List Key × V)} {d : List (List Key × PD)}, RepT K F v d → RepT K H v d
  | _, _, .nil => .nil
  | _, _, .cons h r => .cons (Rep.le s h) (RepT.le s r)
end
mutual
theorem own_at {k : Kc} {F H : Hp} (s : FLe F H) : ∀ {v : V} {o : O} {S : List Addr} {d : PD}, Own k F H v o S → toPD o = some d → Rep k.K H v d
  | _, _, _, _, .fz h, e => by
    have e' := Option.some.inj e
    subst e'
    exact h.le s
  | _, _, _, _, .lst h r, e => by
    have e' := Option.some.inj e
    subst e'
    exact .lst (.inl h) (r.le s)
  | _, _, _, _, .dic h r, e => by
    have e' := Option.some.inj e
    subst e'
    exact .dic h (r.le s) rfl
  | _, _, _, _, .dit h r, e => by
    have e' := Option.some.inj e
    subst e'
    exact .dit h (r.le s) rfl
  | _, _, _, _, .nst (os := os) h r, e => by
    have e : (toPDs os).map PyData.list = some _ := e
    cases q : toPDs os with
    | none => rw [q] at e; cases e
    | some ds =>
      rw [q] at e
      have e' := Option.some.inj e
      subst e'
      exact .lst (.inl h) (owns_at s r q)
  | _, _, _, _, .ntp (os := os) h hg r, e => by
    have e : (toPDs os).map PyData.tuple = some _ := e
    cases q : toPDs os with
    | none => rw [q] at e; cases e
    | some ds =>
      rw [q] at e
      have e' := Option.some.inj e
      subst e'
      exact .tup h (owns_at s r q)
  | _, _, _, _, .ndc (os := os) h r, e => by
    have e : (toPDk os).map (fun ds => PyData.dict (ds.map kp)) = some _ := e
    cases q : toPDk os with
    | none => rw [q] at e; cases e
    | some ds =>
      rw [q] at e
      have e' := Option.some.inj e
      subst e'
      exact .dic h (ownk_at s r q) rfl
  | _, _, _, _, .ins _ _, e => by cases e
  | _, _, _, _, .ktp _ _, e => by cases e
  | _, _, _, _, .dead, e => by cases e
theorem owns_at {k : Kc} {F H : Hp} (s : FLe F H) : ∀ {v : List V} {o : List O} {S : List Addr} {d : List PD}, Owns k F H v o S → toPDs o = some d → Reps k.K H v d
  | _, _, _, _, .nil, e => by
    have e' := Option.some.inj e
    subst e'
    exact .nil
  | _, _, _, _, .cons (o := o) (os := os) h r, e => by
    unfold toPDs at e
    cases q1 : toPD o with
    | none => rw [q1] at e; cases e
    | some d =>
      cases q2 : toPDs os with
      | none => rw [q1, q2] at e; cases e
      | some ds =>
        rw [q1, q2] at e
        have e' := Option.some.inj e
        subst e'
        exact .cons (own_at s h q1) (owns_at s r q2)
theorem ownk_at {k : Kc} {F H : Hp} (s : FLe F H) : ∀ {v : List (Key × V)} {o : List (Key × O)} {S : List Addr} {d : List (Key × PD)}, OwnK k F H v o S → toPDk o = some d → RepK k.K H v d
  | _, _, _, _, .nil, e => by
    have e' := Option.some.inj e
    subst e'
    exact .nil
  | _, _, _, _, .cons (o := o) (os := os) h r, e => by
    unfold toPDk at e
    cases q1 : toPD o with
    | none => rw [q1] at e; cases e
    | some d =>
      cases q2 : toPDk os with
      | none => rw [q1, q2] at e; cases e
      | some ds =>
        rw [q1, q2] at e
        have e' := Option.some.inj e
        subst e'
        exact .cons (own_at s h q1) (ownk_at s r q2)
end
theorem Vw.at_ {k : Kc} {F H : Hp} {S : List Addr} {v : V} {o : O} {d : PD} (h : Vw k F H S v o) (s : FLe F H) (e : toPD o = some d) : Rep k.K H v d :=
  let ⟨_, _, q⟩ := h
  own_at s q e
/-- sequences -/
def seqL : O → Option (List PD)
  | .fz (.list ds) => some ds
  | .lst ds => some ds
  | _ => none
def seqT : O → Option (List PD)
  | .fz (.tuple ds) => some ds
  | _ => none
theorem Vw.seqL {k : Kc} {F H : Hp} {S : List Addr} {v : V} {o : O} {ds : List PD} (h : Vw k F H S v o) (s : FLe F H) (e : FM.seqL o = some ds) : ∃ a vs, v = .ref a ∧ SqL k.K H a vs ∧ Reps k.K F vs ds := by
  obtain ⟨T, _, q⟩ := h
  cases q with
  | fz r =>
    cases r with
    | lst h1 h2 =>
      have e' := Option.some.inj e
      subst e'
      exact ⟨_, _, rfl, sqL_le s h1, h2⟩
    | dic h1 h2 h3 => subst h3; cases e
    | dit h1 h2 h3 => subst h3; cases e
    | _ => cases e
  | lst h1 h2 =>
    have e' := Option.some.inj e
    subst e'
    exact ⟨_, _, rfl, .inl h1, h2⟩
  | _ => cases e
theorem Vw.seqT {k : Kc} {F H : Hp} {S : List Addr} {v : V} {o : O} {ds : List PD} (h : Vw k F H S v o) (s : FLe F H) (e : FM.seqT o = some ds) : ∃ a vs, v = .ref a ∧ H a = some (.tup vs) ∧ Reps k.K F vs ds := by
  obtain ⟨T, _, q⟩ := h
  cases q with
  | fz r =>
    cases r with
    | tup h1 h2 =>
      have e' := Option.some.inj e
      subst e'
      exact ⟨_, _, rfl, tup_le s h1, h2⟩
    | dic h1 h2 h3 => subst h3; cases e
    | dit h1 h2 h3 => subst h3; cases e
    | _ => cases e
  | _ => cases e
/-- a tuple that is read: a new one, or the module's -/
def seqR : O → Option (List PD)
  | .fz (.tuple ds) => some ds
  | .ktp ds => some ds
  | _ => none
theorem Vw.seqR {k : Kc} {F H : Hp} {S : List Addr} {v : V} {o : O} {ds : List PD} (h : Vw k F H S v o) (s : FLe F H) (e : FM.seqR o = some ds) : ∃ a vs, v = .ref a ∧ SqT k.K H a vs ∧ Reps k.K F vs ds := by
  obtain ⟨T, _, q⟩ := h
  cases q with
  | fz r =>
    cases r with
    | tup h1 h2 =>
      have e' := Option.some.inj e
      subst e'
      exact ⟨_, _, rfl, SqT.of (tup_le s h1), h2⟩
    | dic h1 h2 h3 => subst h3; cases e
    | dit h1 h2 h3 => subst h3; cases e
    | _ => cases e
  | ktp h1 h2 =>
    have e' := Option.some.inj e
    subst e'
    exact ⟨_, _, rfl, h1 H, h2⟩
  | _ => cases e
theorem Vw.int {k : Kc} {F H : Hp} {S : List Addr} {v : V} {i : Int} (h : Vw k F H S v (.fz (.int i))) : v = .int i := by
  cases h.rep with
  | int => rfl
  | dic _ _ e => cases e
  | dit _ _ e => cases e
theorem Vw.str {k : Kc} {F H : Hp} {S : List Addr} {v : V} {i : Str} (h : Vw k F H S v (.fz (.str i))) : v = .str i := by
  cases h.rep with
  | str => rfl
  | dic _ _ e => cases e
  | dit _ _ e => cases e
theorem Vw.bl {k : Kc} {F H : Hp} {S : List Addr} {v : V} {i : Bool} (h : Vw k F H S v (.fz (.bool i))) : v = .bl i := by
  cases h.rep with
  | bl => rfl
  | dic _ _ e => cases e
  | dit _ _ e => cases e
theorem Vw.non {k : Kc} {F H : Hp} {S : List Addr} {v : V} (h : Vw k F H S v (.fz .none)) : v = .non := by
  cases h.rep with
  | non => rfl
  | dic _ _ e => cases e
  | dit _ _ e => cases e
theorem Reps.length {K : Frag} {F : Hp} : ∀ {vs : List V} {ds : List PD}, Reps K F vs ds → vs.length = ds.length
  | _, _, .nil => rfl
  | _, _, .cons _ r => congrArg (· + 1) (Reps.length r)
theorem Reps.append {K : Frag} {F : Hp} : ∀ {vs ws : List V} {ds es : List PD}, Reps K F vs ds → Reps K F ws es → Reps K F (vs ++ ws) (ds ++ es)
  | _, _, _, _, .nil, s => s
  | _, _, _, _, .cons h r, s => .cons h (Reps.append r s)
theorem Reps.get {K : Frag} {F : Hp} : ∀ {vs : List V} {ds : List PD} {i : Nat} {d : PD}, Reps K F vs ds → ds[i]? = some d → ∃ v, vs[i]? = some v ∧ Rep K F v d
  | _, _, _, _, .nil, e => by simp at e
  | _, _, 0, _, .cons h r, e => by
    have e' : _ = _ := Option.some.inj (by simpa using e)
    subst e'
    exact ⟨_, rfl, h⟩
  | _, _, i + 1, _, .cons h r, e => by
    obtain ⟨v, q, w⟩ := Reps.get (i := i) r (by simpa using e)
    exact ⟨v, by simpa using q, w⟩
theorem Reps.take {K : Frag} {F : Hp} : ∀ {vs : List V} {ds : List PD} (n : Nat), Reps K F vs ds → Reps K F (vs.take n) (ds.take n)
  | _, _, 0, _ => by simp only [List.take_zero]; exact .nil
  | _, _, n + 1, .nil => by simp only [List.take_nil]; exact .nil
  | _, _, n + 1, .cons h r => .cons h (Reps.take n r)
theorem Reps.drop {K : Frag} {F : Hp} : ∀ {vs : List V} {ds : List PD} (n : Nat), Reps K F vs ds → Reps K F (vs.drop n) (ds.drop n)
  | _, _, 0, r => r
  | _, _, n + 1, .nil => by simp only [List.drop_nil]; exact .nil
  | _, _, n + 1, .cons h r => Reps.drop n r
theorem Reps.set {K : Frag} {F : Hp} {v : V} {d : PD} (q : Rep K F v d) : ∀ {vs : List V} {ds : List PD} (n : Nat), Reps K F vs ds → Reps K F (vs.set n v) (ds.set n d)
  | _, _, _, .nil => .nil
  | _, _, 0, .cons h r => .cons q r
  | _, _, n + 1, .cons h r => .cons h (Reps.set q n r)
theorem Reps.reverse {K : Frag} {F : Hp} : ∀ {vs : List V} {ds : List PD}, Reps K F vs ds → Reps K F vs.reverse ds.reverse
  | _, _, .nil => .nil
  | _, _, .cons h r => by
    rw [List.reverse_cons, List.reverse_cons]
    exact (Reps.reverse r).append (.cons h .nil)
theorem Reps.eraseIdx {K : Frag} {F : Hp} : ∀ {vs : List V} {ds : List PD} (n : Nat), Reps K F vs ds → Reps K F (vs.eraseIdx n) (ds.eraseIdx n)
  | _, _, _, .nil => by simp only [List.eraseIdx_nil]; exact .nil
  | _, _, 0, .cons h r => r
  | _, _, n + 1, .cons h r => .cons h (Reps.eraseIdx n r)
theorem Reps.dropLast {K : Frag} {F : Hp} {vs : List V} {ds : List PD} (r : Reps K F vs ds) : Reps K F vs.dropLast ds.dropLast := by
  rw [List.dropLast_eq_take, List.dropLast_eq_take, r.length]
  exact r.take _
end FM
namespace FM
open PySem L2

theorem rd_there {H : Hp} {a : Addr} {u : HO} (h : Rd H a u) (hu : ¬ gnd u := by rintro ⟨z, e⟩; cases e) : Th H a := by
  rcases h with h | ⟨o, h⟩
  · refine ⟨by rw [h]; simp, fun w g e => ?_⟩
    rw [h] at e
    cases e
    exact hu g
  · refine ⟨by rw [h]; simp, fun w g e => ?_⟩
    rw [h] at e
    cases e
    obtain ⟨z, e⟩ := g
    cases e
mutual
theorem Own.there {k : Kc} {F H : Hp} : ∀ {v : V} {o : O} {S : List Addr}, Own k F H v o S → ∀ a ∈ S, Th H a
  | _, _, _, .fz _, a, m => by cases m
  | _, _, _, .lst h _, a, m => by rw [List.mem_singleton.mp m]; exact rd_there h
  | _, _, _, .dic h _, a, m => by rw [List.mem_singleton.mp m]; exact rd_there h
  | _, _, _, .dit h _, a, m => by rw [List.mem_singleton.mp m]; exact rd_there h
  | _, _, _, .nst h r, a, m => by
    rcases List.mem_cons.mp m with e | m
    · rw [e]; exact rd_there h
    · exact Owns.there r a m
  | _, _, _, .ntp h hg r, a, m => by
    rcases List.mem_cons.mp m with e | m
    · subst e
      refine ⟨by rw [h]; simp, fun w g e => ?_⟩
      rw [h] at e
      cases e
      obtain ⟨z, e⟩ := g
      cases e
      exact hg z rfl
    · exact Owns.there r a m
  | _, _, _, .ndc h r, a, m => by
    rcases List.mem_cons.mp m with e | m
    · rw [e]; exact rd_there h
    · exact OwnK.there r a m
  | _, _, _, .ins h r, a, m => by
    rcases List.mem_cons.mp m with e | m
    · rw [e]; exact rd_there (.inl h)
    · exact OwnF.there r a m
  | _, _, _, .ktp _ _, a, m => by cases m
  | _, _, _, .dead, a, m => by cases m
theorem Owns.there {k : Kc} {F H : Hp} : ∀ {v : List V} {o : List O} {S : List Addr}, Owns k F H v o S → ∀ a ∈ S, Th H a
  | _, _, _, .nil, a, m => by cases m
  | _, _, _, .cons h r, a, m => (List.mem_append.mp m).elim (Own.there h a) (Owns.there r a)
theorem OwnK.there {k : Kc} {F H : Hp} : ∀ {v : List (Key × V)} {o : List (Key × O)} {S : List Addr}, OwnK k F H v o S → ∀ a ∈ S, Th H a
  | _, _, _, .nil, a, m => by cases m
  | _, _, _, .cons h r, a, m => (List.mem_append.mp m).elim (Own.there h a) (OwnK.there r a)
theorem OwnF.there {k : Kc} {F H : Hp} : ∀ {v : List (Str × V)} {o : List (Str × O)} {S : List Addr}, OwnF k F H v o S → ∀ a ∈ S, Th H a
  | _, _, _, .nil, a, m => by cases m
  | _, _, _, .cons h r, a, m => (List.mem_append.mp m).elim (Own.there h a) (OwnF.there r a)
end
theorem Envs.there {k : Kc} {F H : Hp} : ∀ {σ : L2.St} {ρ : List O} {S : List Addr}, Envs k F H σ ρ S → ∀ a ∈ S, Th H a
  | _, _, _, .nil, a, m => by cases m
  | _, _, _, .dead r, a, m => Envs.there r a m
  | _, _, _, .cons h r, a, m => (List.mem_append.mp m).elim (Own.there h a) (Envs.there r a)

/-- the state of a quiet evaluation -/
structure Qs (k : Kc) (F H : Hp) (σ : L2.St) (ρ : List O) (S : List Addr) : Prop where
  fle : FLe F H
  env : Envs k F H σ ρ S
  off : ∀ a ∈ S, F a = none
theorem Xt.off {F H F' H' : Hp} (x : Xt F H F' H') {a : Addr} (h : F a = none) (t : Th H a) : F' a = none := by
  cases e : F' a with
  | none => rfl
  | some u =>
    rcases x.fresh a u e with q | q | ⟨g, q⟩
    · rw [h] at q; cases q
    · exact absurd q t.1
    · exact absurd q (t.2 u g)
theorem Qs.xt {k : Kc} {F H F' H' : Hp} {σ : L2.St} {ρ : List O} {S : List Addr} (q : Qs k F H σ ρ S) (x : Xt F H F' H') : Qs k F' H' σ ρ S :=
  ⟨x.fle, q.env.xt x, fun a m => x.off (q.off a m) (q.env.there a m)⟩

/-! ### quiet readings -/
abbrev QE := List O → Option O
def TEv (k : Kc) (t : TE) (q : QE) : Prop := ∀ (F H : Hp) (σ : L2.St) (ρ : List O) (S : List Addr) (o : O) (Q : VK), Qs k F H σ ρ S → q ρ = some o → (∀ v F' H', Xt F H F' H' → Vw k F' H' S v o → Q v H') → t σ H Q
def TTv (k : Kc) (t : TT) (q : List O → Option Bool) : Prop := ∀ (F H : Hp) (σ : L2.St) (ρ : List O) (S : List Addr) (b : Bool) (Q : Bool → Hp → Prop), Qs k F H σ ρ S → q ρ = some b → (∀ F' H', Xt F H F' H' → Q b H') → t σ H Q
def TAv (k : Kc) (t : TA) (q : List O → Option (List O)) : Prop := ∀ (F H : Hp) (σ : L2.St) (ρ : List O) (S : List Addr) (os : List O) (Q : List V → Hp → Prop), Qs k F H σ ρ S → q ρ = some os → (∀ vs F' H', Xt F H F' H' → Vws k F' H' S vs os → Q vs H') → t σ H Q
def TOv (k : Kc) (t : TO) (q : List O → Option (Option Int)) : Prop := ∀ (F H : Hp) (σ : L2.St) (ρ : List O) (S : List Addr) (b : Option Int) (Q : Option Int → Hp → Prop), Qs k F H σ ρ S → q ρ = some b → (∀ F' H', Xt F H F' H' → Q b H') → t σ H Q
/-- a new object of one's own -/
structure Fresh (F' H H' : Hp) (T : List Addr) : Prop where
  nd : T.Nodup
  new : ∀ a ∈ T, H a = none
  off : ∀ a ∈ T, F' a = none
  nofz : ∀ a ∈ T, ∀ o u, H' a ≠ some (.frz o u)
def TEn (k : Kc) (t : TE) (q : QE) : Prop := ∀ (F H : Hp) (σ : L2.St) (ρ : List O) (S : List Addr) (o : O) (Q : VK), Qs k F H σ ρ S → q ρ = some o → (∀ v F' H' T, Xt F H F' H' → Own k F' H' v o T → Fresh F' H H' T → Q v H') → t σ H Q
/-- operations by views -/
def OpV (k : Kc) (r : R2) (f : O → O → Option O) : Prop := ∀ (F H : Hp) (S : List Addr) (x y : V) (ox oy o : O) (Q : VK), FLe F H → (∀ a ∈ S, F a = none) → (∀ a ∈ S, Th H a) → Vw k F H S x ox → Vw k F H S y oy → f ox oy = some o → (∀ v F' H', Xt F H F' H' → Vw k F' H' S v o → Q v H') → r x y H Q
def UnV (k : Kc) (r : V → Hp → VK → Prop) (f : O → Option O) : Prop := ∀ (F H : Hp) (S : List Addr) (x : V) (ox o : O) (Q : VK), FLe F H → (∀ a ∈ S, F a = none) → (∀ a ∈ S, Th H a) → Vw k F H S x ox → f ox = some o → (∀ v F' H', Xt F H F' H' → Vw k F' H' S v o → Q v H') → r x H Q
def CbV (k : Kc) (r : List V → Hp → VK → Prop) (f : List O → Option O) : Prop := ∀ (F H : Hp) (S : List Addr) (xs : List V) (os : List O) (o : O) (Q : VK), FLe F H → (∀ a ∈ S, F a = none) → (∀ a ∈ S, Th H a) → Vws k F H S xs os → f os = some o → (∀ v F' H', Xt F H F' H' → Vw k F' H' S v o → Q v H') → r xs H Q
def CbN (k : Kc) (r : List V → Hp → VK → Prop) (f : List O → Option O) : Prop := ∀ (F H : Hp) (S : List Addr) (xs : List V) (os : List O) (o : O) (Q : VK), FLe F H → (∀ a ∈ S, F a = none) → (∀ a ∈ S, Th H a) → Vws k F H S xs os → f os = some o → (∀ v F' H' T, Xt F H F' H' → Own k F' H' v o T → Fresh F' H H' T → Q v H') → r xs H Q

/-! ### the mirror's words -/
def qVar (i : Nat) : QE := fun ρ => match ρ[i]? with
  | some .dead => none
  | r => r
def qC (d : PD) : QE := fun _ => some (.fz d)
def qOp (f : O → O → Option O) (a b : QE) : QE := fun ρ => match a ρ with
  | none => none
  | some x => match b ρ with
    | none => none
    | some y => f x y
def qUn (f : O → Option O) (a : QE) : QE := fun ρ => match a ρ with
  | none => none
  | some x => f x
def qNil : List O → Option (List O) := fun _ => some []
def qCons (a : QE) (r : List O → Option (List O)) : List O → Option (List O) := fun ρ => match a ρ with
  | none => none
  | some x => match r ρ with
    | none => none
    | some xs => some (x :: xs)
def qCb (f : List O → Option O) (r : List O → Option (List O)) : QE := fun ρ => match r ρ with
  | none => none
  | some xs => f xs
def qB (a : QE) : List O → Option Bool := fun ρ => match a ρ with
  | some (.fz (.bool b)) => some b
  | _ => none
def qAnd (a b : List O → Option Bool) : List O → Option Bool := fun ρ => match a ρ with
  | some true => b ρ
  | r => r
def qOr (a b : List O → Option Bool) : List O → Option Bool := fun ρ => match a ρ with
  | some false => b ρ
  | r => r
def qNot (a : List O → Option Bool) : List O → Option Bool := fun ρ => match a ρ with
  | some b => some (!b)
  | none => none
def qAndV (a b : QE) : QE := fun ρ => match a ρ with
  | some (.fz (.bool true)) => b ρ
  | some (.fz (.bool false)) => some (.fz (.bool false))
  | _ => none
def qOrV (a b : QE) : QE := fun ρ => match a ρ with
  | some (.fz (.bool false)) => b ρ
  | some (.fz (.bool true)) => some (.fz (.bool true))
  | _ => none
def qNotV (a : QE) : QE := fun ρ => match a ρ with
  | some (.fz (.bool b)) => some (.fz (.bool (!b)))
  | _ => none
def qIf (c : List O → Option Bool) (a b : QE) : QE := fun ρ => match c ρ with
  | some true => a ρ
  | some false => b ρ
  | none => none
def qFz (a : QE) : QE := fun ρ => match a ρ with
  | some o => (toPD o).map .fz
  | none => none

section
variable {k : Kc} {ta tb te : TE} {t u : TT} {tl : TA} {qa qb : QE} {ca cb : List O → Option Bool} {qs : List O → Option (List O)}
theorem tev_var {i : Nat} : TEv k (tVar i) (qVar i) := by
  intro F H σ ρ S o Q q e h
  have e1 : ρ[i]? = some o ∧ o ≠ .dead := by
    unfold qVar at e
    split at e
    · cases e
    · rename_i hne
      refine ⟨e, fun z => hne ?_⟩
      rw [e, z]
  rcases q.env.get e1.1 with z | ⟨v, hv, w⟩
  · exact absurd z e1.2
  · exact ⟨v, hv, h v F H (Xt.refl q.fle) w⟩
theorem tev_c {v : V} {d : PD} (r : ∀ F, Rep k.K F v d) : TEv k (tC v) (qC d) := by
  intro F H σ ρ S o Q q e h
  have e' := Option.some.inj e
  subst e'
  exact h v F H (Xt.refl q.fle) (.fz (r F))
theorem tev_op {r : R2} {f : O → O → Option O} (ha : TEv k ta qa) (hb : TEv k tb qb) (hr : OpV k r f) : TEv k (tOp r ta tb) (qOp f qa qb) := by
  intro F H σ ρ S o Q q e h
  unfold qOp at e
  cases e1 : qa ρ with
  | none => rw [e1] at e; cases e
  | some x =>
    rw [e1] at e
    cases e2 : qb ρ with
    | none => simp only [e2] at e; cases e
    | some y =>
      simp only [e2] at e
      refine ha F H σ ρ S x _ q e1 fun v F1 H1 x1 w1 => ?_
      refine hb F1 H1 σ ρ S y _ (q.xt x1) e2 fun w F2 H2 x2 w2 => ?_
      have q2 := (q.xt x1).xt x2
      exact hr F2 H2 S v w x y o Q x2.fle q2.off q2.env.there (w1.xt x2) w2 e fun z F3 H3 x3 w3 => h z F3 H3 ((x1.trans x2).trans x3) w3
theorem tev_un {r : V → Hp → VK → Prop} {f : O → Option O} (ha : TEv k ta qa) (hr : UnV k r f) : TEv k (tUn r ta) (qUn f qa) := by
  intro F H σ ρ S o Q q e h
  unfold qUn at e
  cases e1 : qa ρ with
  | none => rw [e1] at e; cases e
  | some x =>
    rw [e1] at e
    refine ha F H σ ρ S x _ q e1 fun v F1 H1 x1 w1 => ?_
    have q2 := q.xt x1
    exact hr F1 H1 S v x o Q x1.fle q2.off q2.env.there w1 e fun z F3 H3 x3 w3 => h z F3 H3 (x1.trans x3) w3
theorem tav_nil : TAv k tNil qNil := by
  intro F H σ ρ S os Q q e h
  have e' := Option.some.inj e
  subst e'
  exact h [] F H (Xt.refl q.fle) .nil
theorem tav_cons (ha : TEv k te qa) (hr : TAv k tl qs) : TAv k (tCons te tl) (qCons qa qs) := by
  intro F H σ ρ S os Q q e h
  unfold qCons at e
  cases e1 : qa ρ with
  | none => rw [e1] at e; cases e
  | some x =>
    rw [e1] at e
    cases e2 : qs ρ with
    | none => simp only [e2] at e; cases e
    | some xs =>
      simp only [e2] at e
      have e' := Option.some.inj e
      subst e'
      refine ha F H σ ρ S x _ q e1 fun v F1 H1 x1 w1 => ?_
      exact hr F1 H1 σ ρ S xs _ (q.xt x1) e2 fun vs F2 H2 x2 w2 => h _ F2 H2 (x1.trans x2) (.cons (w1.xt x2) w2)
theorem tev_cb {r : List V → Hp → VK → Prop} {f : List O → Option O} (ha : TAv k tl qs) (hr : CbV k r f) : TEv k (tCB r tl) (qCb f qs) := by
  intro F H σ ρ S o Q q e h
  unfold qCb at e
  cases e1 : qs ρ with
  | none => rw [e1] at e; cases e
  | some x =>
    rw [e1] at e
    refine ha F H σ ρ S x _ q e1 fun v F1 H1 x1 w1 => ?_
    have q2 := q.xt x1
    exact hr F1 H1 S v x o Q x1.fle q2.off q2.env.there w1 e fun z F3 H3 x3 w3 => h z F3 H3 (x1.trans x3) w3
theorem ten_cb {r : List V → Hp → VK → Prop} {f : List O → Option O} (ha : TAv k tl qs) (hr : CbN k r f) : TEn k (tCB r tl) (qCb f qs) := by
  intro F H σ ρ S o Q q e h
  unfold qCb at e
  cases e1 : qs ρ with
  | none => rw [e1] at e; cases e
  | some x =>
    rw [e1] at e
    refine ha F H σ ρ S x _ q e1 fun v F1 H1 x1 w1 => ?_
    have q2 := q.xt x1
    exact hr F1 H1 S v x o Q x1.fle q2.off q2.env.there w1 e fun z F3 H3 T x3 w3 fr => h z F3 H3 T (x1.trans x3) w3 ⟨fr.nd, fun a m => none_back x1.ex (fr.new a m), fr.off, fr.nofz⟩
theorem ttv_test (ha : TEv k te qa) : TTv k (tTest te) (qB qa) := by
  intro F H σ ρ S b Q q e h
  unfold qB at e
  split at e
  · rename_i c e1
    have e' := Option.some.inj e
    subst e'
    refine ha F H σ ρ S _ _ q e1 fun v F1 H1 x1 w1 => ?_
    exact ⟨_, w1.bl, h F1 H1 x1⟩
  · cases e
theorem ttv_B (ha : TEv k te qa) : TTv k (tB te) (qB qa) := by
  intro F H σ ρ S b Q q e h
  unfold qB at e
  split at e
  · rename_i c e1
    have e' := Option.some.inj e
    subst e'
    refine ha F H σ ρ S _ _ q e1 fun v F1 H1 x1 w1 => ?_
    exact ⟨_, w1.bl, h F1 H1 x1⟩
  · cases e
theorem ttv_and (ha : TTv k t ca) (hb : TTv k u cb) : TTv k (tAnd t u) (qAnd ca cb) := by
  intro F H σ ρ S b Q q e h
  unfold qAnd at e
  cases e1 : ca ρ with
  | none => rw [e1] at e; cases e
  | some c =>
    rw [e1] at e
    refine ha F H σ ρ S c _ q e1 fun F1 H1 x1 => ?_
    cases c with
    | true =>
      rw [if_pos rfl]
      exact hb F1 H1 σ ρ S b Q (q.xt x1) e fun F2 H2 x2 => h F2 H2 (x1.trans x2)
    | false =>
      have e' := Option.some.inj e
      subst e'
      rw [if_neg (by decide)]
      exact h F1 H1 x1
theorem ttv_or (ha : TTv k t ca) (hb : TTv k u cb) : TTv k (tOr t u) (qOr ca cb) := by
  intro F H σ ρ S b Q q e h
  unfold qOr at e
  cases e1 : ca ρ with
  | none => rw [e1] at e; cases e
  | some c =>
    rw [e1] at e
    refine ha F H σ ρ S c _ q e1 fun F1 H1 x1 => ?_
    cases c with
    | false =>
      rw [if_neg (by decide)]
      exact hb F1 H1 σ ρ S b Q (q.xt x1) e fun F2 H2 x2 => h F2 H2 (x1.trans x2)
    | true =>
      have e' := Option.some.inj e
      subst e'
      rw [if_pos rfl]
      exact h F1 H1 x1
theorem ttv_not (ha : TTv k t ca) : TTv k (tNot t) (qNot ca) := by
  intro F H σ ρ S b Q q e h
  unfold qNot at e
  cases e1 : ca ρ with
  | none => rw [e1] at e; cases e
  | some c =>
    rw [e1] at e
    have e' := Option.some.inj e
    subst e'
    exact ha F H σ ρ S c _ q e1 fun F1 H1 x1 => h F1 H1 x1
theorem tev_andV (ha : TEv k ta qa) (hb : TEv k tb qb) : TEv k (tAndV ta tb) (qAndV qa qb) := by
  intro F H σ ρ S o Q q e h
  unfold qAndV at e
  split at e
  · rename_i e1
    refine ha F H σ ρ S _ _ q e1 fun v F1 H1 x1 w1 => ⟨true, w1.bl, ?_⟩
    rw [if_pos rfl]
    exact hb F1 H1 σ ρ S o Q (q.xt x1) e fun w F2 H2 x2 w2 => h w F2 H2 (x1.trans x2) w2
  · rename_i e1
    have e' := Option.some.inj e
    subst e'
    refine ha F H σ ρ S _ _ q e1 fun v F1 H1 x1 w1 => ⟨false, w1.bl, ?_⟩
    rw [if_neg (by decide)]
    exact h _ F1 H1 x1 (.fz (.bl false))
  · cases e
theorem tev_orV (ha : TEv k ta qa) (hb : TEv k tb qb) : TEv k (tOrV ta tb) (qOrV qa qb) := by
  intro F H σ ρ S o Q q e h
  unfold qOrV at e
  split at e
  · rename_i e1
    refine ha F H σ ρ S _ _ q e1 fun v F1 H1 x1 w1 => ⟨false, w1.bl, ?_⟩
    rw [if_neg (by decide)]
    exact hb F1 H1 σ ρ S o Q (q.xt x1) e fun w F2 H2 x2 w2 => h w F2 H2 (x1.trans x2) w2
  · rename_i e1
    have e' := Option.some.inj e
    subst e'
    refine ha F H σ ρ S _ _ q e1 fun v F1 H1 x1 w1 => ⟨true, w1.bl, ?_⟩
    rw [if_pos rfl]
    exact h _ F1 H1 x1 (.fz (.bl true))
  · cases e
theorem tev_notV (ha : TEv k ta qa) : TEv k (tNotV ta) (qNotV qa) := by
  intro F H σ ρ S o Q q e h
  unfold qNotV at e
  split at e
  · rename_i c e1
    have e' := Option.some.inj e
    subst e'
    exact ha F H σ ρ S _ _ q e1 fun v F1 H1 x1 w1 => ⟨c, w1.bl, h _ F1 H1 x1 (.fz (.bl _))⟩
  · cases e
theorem tev_if (hc : TTv k t ca) (ha : TEv k ta qa) (hb : TEv k tb qb) : TEv k (tIf t ta tb) (qIf ca qa qb) := by
  intro F H σ ρ S o Q q e h
  unfold qIf at e
  split at e
  · rename_i e1
    refine hc F H σ ρ S _ _ q e1 fun F1 H1 x1 => ?_
    rw [if_pos rfl]
    exact ha F1 H1 σ ρ S o Q (q.xt x1) e fun w F2 H2 x2 w2 => h w F2 H2 (x1.trans x2) w2
  · rename_i e1
    refine hc F H σ ρ S _ _ q e1 fun F1 H1 x1 => ?_
    rw [if_neg (by decide)]
    exact hb F1 H1 σ ρ S o Q (q.xt x1) e fun w F2 H2 x2 w2 => h w F2 H2 (x1.trans x2) w2
  · cases e
/-- what is new may be frozen -/
theorem tev_n (ha : TEn k te qa) : TEv k te (qFz qa) := by
  intro F H σ ρ S o Q q e h
  unfold qFz at e
  cases e1 : qa ρ with
  | none => rw [e1] at e; cases e
  | some x =>
    rw [e1] at e
    have e : (toPD x).map O.fz = some o := e
    cases e2 : toPD x with
    | none => rw [e2] at e; cases e
    | some d =>
      rw [e2] at e
      have e' := Option.some.inj e
      subst e'
      refine ha F H σ ρ S x _ q e1 fun v F1 H1 T x1 w1 fr => ?_
      refine h v (over F1 H1 T) H1 ⟨x1.ex, x1.sub.trans (over_sub fr.off), over_le x1.fle, fun a u z => ?_⟩ (.fz (w1.freeze fr.off e2))
      rcases over_fresh z with z | z
      · exact x1.fresh a u z
      · exact .inr (.inl (fr.new a z))
/-- what holds no owned thing is new, too -/
def isFz : O → Bool
  | .fz _ => true
  | _ => false
def qFzO (a : QE) : QE := fun ρ => match a ρ with
  | some (.fz d) => some (.fz d)
  | _ => none
theorem ten_v (ha : TEv k te qa) : TEn k te (qFzO qa) := by
  intro F H σ ρ S o Q q e h
  unfold qFzO at e
  split at e
  · rename_i d e1
    have e' := Option.some.inj e
    subst e'
    exact ha F H σ ρ S _ _ q e1 fun v F1 H1 x1 w1 => h v F1 H1 [] x1 (.fz w1.rep) ⟨.nil, (fun a m => by cases m), (fun a m => by cases m), (fun a m => by cases m)⟩
  · cases e
end
end FM
namespace FM
open PySem L2 PyProof.Rows

/-! ### data, by the library's own reading -/
mutual
theorem Rep.dp {K : Frag} {H : Hp} : ∀ {v : V} {d : PD}, Rep K H v d → d.canLay0 = true → Dp K H v d
  | _, _, .non, _ => .non
  | _, _, .bl b, _ => .bl b
  | _, _, .int i, _ => .int i
  | _, _, .str x, _ => .str x
  | _, _, .lst h r, c => .lst h (Reps.dp r (by simpa [PyData.canLay0] using c))
  | _, _, .tup h r, c => .tup (SqT.of h) (Reps.dp r (by simpa [PyData.canLay0] using c))
  | _, _, .dic h r e, c => by subst e; simp [PyData.canLay0] at c
  | _, _, .dit h r e, c => by subst e; simp [PyData.canLay0] at c
theorem Reps.dp {K : Frag} {H : Hp} : ∀ {v : List V} {d : List PD}, Reps K H v d → PyData.canLayAll0 d = true → DpAll K H v d
  | _, _, .nil, _ => .nil
  | _, _, .cons h r, c => by
    have c' : _ ∧ _ := Bool.and_eq_true_iff.mp (by simpa only [PyData.canLayAll0] using c)
    exact .cons (Rep.dp h c'.1) (Reps.dp r c'.2)
end

theorem list_mulW (l : Addr) (items : Array Value) (n : Nat) (dd : Option Addr) (sl : Array (Option Value)) (x : Int) (u : Tok) (hc0 : ¬(!Builtin.List.listFitsIndex x) = true) (hc1 : ¬items.size * x.toNat > (2 ^ 63 - 1) / 8) (hc2 : ¬Builtin.List.listTooLong (items.size * x.toNat) = true) :
    Meets (Builtin.«list.__mul__» ⟨[.ref l, .int x u], []⟩) (fun _ R s => s.heap.get? l = some { cls := .type "list", dict := dd, data := .seq items n, slots := sl } ∧ R (.ok (.ret (Value.ref s.heap.objs.size))) { s with heap := s.heap.push { cls := Value.type "list", data := Data.seq (List.foldl (fun x1 x2 => x1 ++ x2) #[] (List.replicate (if items.isEmpty = true then 0 else x.toNat) items)) }, toks := s.toks }) :=
  .of_wp fun prog w A R s h => by
    obtain ⟨hp, g, d, tk, os⟩ := s; obtain ⟨hl, h⟩ := h
    have hsz := AutoListH.joined_fits hc2; have f1 := AutoSeq1.idx_int; have f2 := AutoSeq1.sub_tuple_tuple; have f3 := AutoSeq1.sub_list_list; have f4 := AutoSeq1.sub_tuple_list; have f5 := AutoSeq1.sub_list_tuple
    wp_walk using AutoSeq1.wpAny_loadPart' hl; refine wpAny_ite_false (decide_eq_false (Nat.not_lt.mpr hsz)) ?_; wp_walk using AutoSeq1.wpAny_loadPart' hl; exact ⟨_, rfl, h⟩
theorem int_rmulW (a : Int) (t : Tok) (l : Addr) (items : Array Value) (n : Nat) (dd : Option Addr) (sl : Array (Option Value)) :
    Meets (Builtin.«int.__rmul__» ⟨[.int a t, .ref l], []⟩) (fun _ R s => s.heap.get? l = some { cls := .type "list", dict := dd, data := .seq items n, slots := sl } ∧ R (.ok (.ret Value.notImplemented)) s) :=
  .of_wp fun prog w A R s h => by obtain ⟨hp, g, d, tk, os⟩ := s; obtain ⟨hl, h⟩ := h; wp_walk using AutoSeq1.wpAny_loadPart' hl; exact ⟨_, rfl, h⟩

section
variable {X : Cx}
/-! ### operators -/
def rCatL (K : Frag) : R2 := fun x y H Q => ∃ a b xs ys, x = .ref a ∧ y = .ref b ∧ SqL K H a xs ∧ SqL K H b ys ∧ xs.length + ys.length ≤ sizeLine ∧ ∀ p, H p = none → Q (.ref p) (upd H p (.lst (xs ++ ys)))
theorem op_catL : OpR X (binaryOp .Add) (rCatL X.K) := by
  intro pins s σ H x y v u Q I rx ry h
  obtain ⟨l, b, xs, zs, rfl, rfl, hH, hB, hz, q⟩ := h
  cases rx
  cases ry
  obtain ⟨its, r, p1, _⟩ := I.list hH
  obtain ⟨its2, r2, p2, _⟩ := I.list hB
  obtain ⟨⟨cls, dd, data, sl⟩, ho, hc, n, hd⟩ := p1.isList
  obtain ⟨⟨cls2, dd2, data2, sl2⟩, ho2, hc2, n2, hd2⟩ := p2.isList
  simp only at hc hd hc2 hd2
  subst hc hd hc2 hd2
  have e : its.toArray ++ its2.toArray = (its ++ its2).toArray := by simp
  have l1 := r.length
  have l2 := r2.length
  refine concat_meets ⟨_, ho, rfl⟩ ⟨_, ho2, rfl⟩ noFill_list_add seq_list_add PySem.F.slot_list_add PySem.F.entry_list_add (PySem.F.args_list_add_2 _ _) (list_addW l b its.toArray its2.toArray n n2 dd dd2 sl sl2 (by simp only [List.size_toArray]; omega)) ⟨ho, ho2, ?_⟩
  rw [e]
  exact ⟨.ref _, _, I.lnew (t' := s.toks) (r.append r2) (by rw [List.length_append]; omega), rfl, q _ I.fresh⟩
def rStr : R2 := fun x y H Q => ∃ i j, x = .str i ∧ y = .str j ∧ i.length + j.length ≤ sizeLine ∧ Q (.str (i ++ j)) H
def rAddU (K : Frag) : R2 := fun x y H Q => rI0 (fun i j => .int (i + j)) x y H Q ∨ (rStr x y H Q ∨ (rCatL K x y H Q ∨ rCatA K x y H Q))
theorem op_addU : OpR X (binaryOp .Add) (rAddU X.K) := op_add.or (OpR.or op_add_str (op_catL.or op_catA))
def oAdd (x y : O) : Option O :=
  match x, y with
  | .fz (.int a), .fz (.int b) => some (.fz (.int (a + b)))
  | .fz (.str a), .fz (.str b) => if a.length + b.length ≤ sizeLine then some (.fz (.str (a ++ b))) else none
  | x, y => match seqL x, seqL y with
    | some a, some b => if a.length + b.length ≤ sizeLine then some (.fz (.list (a ++ b))) else none
    | _, _ => match seqT x, seqT y with
      | some a, some b => if a.length + b.length ≤ sizeLine then some (.fz (.tuple (a ++ b))) else none
      | _, _ => none
theorem new_list {k : Kc} {F H : Hp} {S : List Addr} {vs : List V} {ds : List PD} {Q : VK} (f : FLe F H) (r : Reps k.K F vs ds) (h : ∀ v F' H', Xt F H F' H' → Vw k F' H' S v (.fz (.list ds)) → Q v H') : ∀ p, H p = none → Q (.ref p) (upd H p (.lst vs)) := fun p hp =>
  have x := Xt.new (o := .lst vs) f hp
  h _ _ _ x (.fz (.lst (SqL.of upd_same) (r.sub x.sub)))
theorem new_tuple {k : Kc} {F H : Hp} {S : List Addr} {vs : List V} {ds : List PD} {Q : VK} (f : FLe F H) (r : Reps k.K F vs ds) (h : ∀ v F' H', Xt F H F' H' → Vw k F' H' S v (.fz (.tuple ds)) → Q v H') : ∀ p, H p = none → Q (.ref p) (upd H p (.tup vs)) := fun p hp =>
  have x := Xt.new (o := .tup vs) f hp
  h _ _ _ x (.fz (.tup upd_same (r.sub x.sub)))
theorem own_list {k : Kc} {F H : Hp} {vs : List V} {ds : List PD} {Q : VK} (f : FLe F H) (r : Reps k.K F vs ds) (h : ∀ v F' H' T, Xt F H F' H' → Own k F' H' v (.lst ds) T → Fresh F' H H' T → Q v H') : ∀ p, H p = none → Q (.ref p) (upd H p (.lst vs)) := fun p hp =>
  have x := Xt.own (o := .lst vs) f hp
  h _ _ _ [p] x (.lst (.inl upd_same) r) ⟨List.nodup_cons.mpr ⟨List.not_mem_nil, .nil⟩, (fun a m => by rw [List.mem_singleton.mp m]; exact hp), (fun a m => by rw [List.mem_singleton.mp m]; exact fle_none f hp), (fun a m o u z => by rw [List.mem_singleton.mp m, upd_same] at z; cases z)⟩
theorem seqT_eq {o : O} {ds : List PD} (e : seqT o = some ds) : o = .fz (.tuple ds) := by
  unfold seqT at e
  split at e
  · have e' := Option.some.inj e
    subst e'
    rfl
  · cases e
theorem ov_add {k : Kc} : OpV k (rAddU k.K) oAdd := by
  intro F H S x y ox oy o Q f off th wx wy e h
  unfold oAdd at e
  split at e
  · have e' := Option.some.inj e
    subst e'
    exact .inl ⟨_, _, wx.int, wy.int, h _ F H (Xt.refl f) (.fz (.int _))⟩
  · split at e
    · rename_i hz
      have e' := Option.some.inj e
      subst e'
      exact .inr (.inl ⟨_, _, wx.str, wy.str, hz, h _ F H (Xt.refl f) (.fz (.str _))⟩)
    · cases e
  · split at e
    · rename_i a b ea eb
      split at e
      · rename_i hz
        have e' := Option.some.inj e
        subst e'
        obtain ⟨p, vs, rfl, hs, rs⟩ := wx.seqL f ea
        obtain ⟨p2, vs2, rfl, hs2, rs2⟩ := wy.seqL f eb
        exact .inr (.inr (.inl ⟨p, p2, vs, vs2, rfl, rfl, hs, hs2, by rw [rs.length, rs2.length]; exact hz, new_list f (rs.append rs2) h⟩))
      · cases e
    · split at e
      · rename_i a b ea eb
        split at e
        · rename_i hz
          have e' := Option.some.inj e
          subst e'
          obtain ⟨p, vs, rfl, hs, rs⟩ := wx.seqT f ea
          obtain ⟨p2, vs2, rfl, hs2, rs2⟩ := wy.seqT f eb
          have l1 := rs.length
          have l2 := rs2.length
          rw [seqT_eq ea] at wx
          rw [seqT_eq eb] at wy
          refine .inr (.inr (.inr ⟨p, p2, vs, vs2, rfl, rfl, SqT.of hs, SqT.of hs2, by rw [l1, l2]; exact hz, fun e0 => ?_, fun _ e0 => ?_, fun _ _ => new_tuple f (rs.append rs2) h⟩))
          · have : a = [] := List.length_eq_zero_iff.mp (by rw [← l1, e0]; rfl)
            rw [this] at h
            exact h _ F H (Xt.refl f) wy
          · have : b = [] := List.length_eq_zero_iff.mp (by rw [← l2, e0]; rfl)
            rw [this, List.append_nil] at h
            exact h _ F H (Xt.refl f) wx
        · cases e
      · cases e
/-- ints -/
def oI (c : Int → Int → Bool) (g : Int → Int → PD) (x y : O) : Option O :=
  match x, y with
  | .fz (.int a), .fz (.int b) => if c a b then some (.fz (g a b)) else none
  | _, _ => none
theorem ov_I {k : Kc} {C : Int → Int → Prop} {c : Int → Int → Bool} {g : Int → Int → V} {gd : Int → Int → PD} (hc : ∀ a b, c a b = true → C a b) (hg : ∀ F a b, Rep k.K F (g a b) (gd a b)) : OpV k (rI C g) (oI c gd) := by
  intro F H S x y ox oy o Q f off th wx wy e h
  unfold oI at e
  split at e
  · split at e
    · rename_i hz
      have e' := Option.some.inj e
      subst e'
      exact ⟨_, _, wx.int, wy.int, hc _ _ hz, h _ F H (Xt.refl f) (.fz (hg F _ _))⟩
    · cases e
  · cases e
def oI0 (g : Int → Int → PD) (x y : O) : Option O :=
  match x, y with
  | .fz (.int a), .fz (.int b) => some (.fz (g a b))
  | _, _ => none
theorem ov_I0 {k : Kc} {g : Int → Int → V} {gd : Int → Int → PD} (hg : ∀ F a b, Rep k.K F (g a b) (gd a b)) : OpV k (rI0 g) (oI0 gd) := by
  intro F H S x y ox oy o Q f off th wx wy e h
  unfold oI0 at e
  split at e
  · have e' := Option.some.inj e
    subst e'
    exact ⟨_, _, wx.int, wy.int, h _ F H (Xt.refl f) (.fz (hg F _ _))⟩
  · cases e
abbrev oSub := oI0 fun a b => .int (a - b)
theorem ov_sub {k : Kc} : OpV k (rI0 fun i j => .int (i - j)) oSub := ov_I0 fun _ _ _ => .int _
/-- the left operand small, the right one small, or both of less than 300,000 bits -/
def CMulA (i j : Int) : Prop := CMul i j ∨ CMulW i j
theorem op_mulA : OpR X (binaryOp .Mult) (rI CMulA fun i j => .int (i * j)) := opI fun i j t u Q E s hc q => mul_int q (hc.elim (fun z => z.ok) fun z => z.ok)
noncomputable def small64 (i : Int) : Bool := @decide (-(2 ^ 64) < i ∧ i < 2 ^ 64) (Classical.propDecidable _)
noncomputable def cMul (i j : Int) : Bool := small64 i || small64 j || (decide (i.natAbs < 2 ^ 400000) && decide (j.natAbs < 2 ^ 400000))
theorem cMul_ok (a b : Int) (h : cMul a b = true) : CMulA a b := by
  unfold cMul small64 at h
  simp only [Bool.or_eq_true, Bool.and_eq_true, decide_eq_true_eq] at h
  rcases h with (h | h) | h
  · exact .inl (.inl h)
  · exact .inl (.inr h)
  · exact .inr (wide_mul h.1 h.2 (by decide) (by decide) (by decide))
def rRepL (K : Frag) : R2 := fun x y H Q => ∃ l k xs, x = .ref l ∧ y = .int k ∧ SqL K H l xs ∧ -(2 ^ 63) ≤ k ∧ k < 2 ^ 63 ∧ xs.length * k.toNat ≤ sizeLine ∧
  ∀ p, H p = none → Q (.ref p) (upd H p (.lst (List.replicate k.toNat xs).flatten))
theorem op_repL : OpR X (binaryOp .Mult) (rRepL X.K) := by
  intro pins s σ H x y v u Q I rx ry h
  obtain ⟨l, k, xs, rfl, rfl, hH, h1, h2, hz, q⟩ := h
  cases rx
  obtain ⟨t, rfl⟩ := ry
  obtain ⟨its, r, p1, _⟩ := I.list hH
  have hl := r.length
  obtain ⟨⟨cls, dd, data, sl⟩, e, hc, n, hd⟩ := p1.isList
  simp only at hc hd
  subst hc hd
  have hlen : its.toArray.size * k.toNat ≤ sizeLine := by rw [List.size_toArray, ← hl]; exact hz
  have hcap : ¬ its.toArray.size * k.toNat > (2 ^ 63 - 1) / 8 := by
    have : (sizeLine : Nat) ≤ (2 ^ 63 - 1) / 8 := by decide
    omega
  have hfit : ¬ (!Builtin.List.listFitsIndex k) = true := by
    rw [fitsIndex_both h1 h2]
    exact Bool.false_ne_true
  have hlong : ¬ Builtin.List.listTooLong (its.toArray.size * k.toNat) = true := by
    rw [notLongL hlen]
    exact Bool.false_ne_true
  have hnew : List.foldl (fun x1 x2 => x1 ++ x2) #[] (List.replicate (if its.toArray.isEmpty = true then 0 else k.toNat) its.toArray) = (List.replicate k.toNat its).flatten.toArray := by
    have f0 : ∀ m : Nat, List.foldl (fun x1 x2 => x1 ++ x2) #[] (List.replicate m its.toArray) = (List.replicate m its).flatten.toArray := fun m => by
      have := foldl_rep its m []
      rw [List.nil_append] at this
      exact this
    rw [f0]
    cases its with
    | nil => simp
    | cons a r' => rw [if_neg (by simp)]
  refine wpAny_binaryOp_repeat_ref (T := "list") (U := "int") (by decide) ⟨_, e, rfl⟩ (fun s' => typeIs_int s' k t) noFill_list_mul F.fills_int_mul F.slot_int_rmul repeat_list F.slot_int_index.lookup
    (call_meets F.slot_int_rmul (typeIs_int s k t) F.entry_int_rmul (F.args_int_rmul_2 _ _) (int_rmulW k t l its.toArray n dd sl)
      ⟨e, rfl, ⟨_, e, rfl⟩, call_meets F.slot_list_mul ⟨_, e, rfl⟩ F.entry_list_mul (F.args_list_mul_2 _ _) (list_mulW l its.toArray n dd sl k t hfit hcap hlong) ⟨e, ?_⟩⟩)
  rw [hnew]
  exact ⟨.ref _, _, I.lnew (t' := s.toks) (r.rep k.toNat) (by rw [PyProof.Rows.lm_len_rep_flat, Nat.mul_comm]; exact hz), rfl, q _ I.fresh⟩
theorem Reps.rep {K : Frag} {F : Hp} {vs : List V} {ds : List PD} (r : Reps K F vs ds) : ∀ n : Nat, Reps K F (List.replicate n vs).flatten (List.replicate n ds).flatten
  | 0 => by simp only [List.replicate_zero, List.flatten_nil]; exact .nil
  | n + 1 => by
    rw [List.replicate_succ, List.replicate_succ, List.flatten_cons, List.flatten_cons]
    exact r.append (Reps.rep r n)
def rMulU (K : Frag) : R2 := fun x y H Q => rI CMulA (fun i j => .int (i * j)) x y H Q ∨ rRepL K x y H Q
theorem op_mulU : OpR X (binaryOp .Mult) (rMulU X.K) := op_mulA.or op_repL
noncomputable def oMul (x y : O) : Option O :=
  match x, y with
  | .fz (.int a), .fz (.int b) => if cMul a b then some (.fz (.int (a * b))) else none
  | x, .fz (.int b) => match seqL x with
    | some a => if -(2 ^ 63) ≤ b ∧ b < 2 ^ 63 ∧ a.length * b.toNat ≤ sizeLine then some (.fz (.list (List.replicate b.toNat a).flatten)) else none
    | none => none
  | _, _ => none
theorem ov_mul {k : Kc} : OpV k (rMulU k.K) oMul := by
  intro F H S x y ox oy o Q f off th wx wy e h
  unfold oMul at e
  split at e
  · split at e
    · rename_i hz
      have e' := Option.some.inj e
      subst e'
      exact .inl ⟨_, _, wx.int, wy.int, cMul_ok _ _ hz, h _ F H (Xt.refl f) (.fz (.int _))⟩
    · cases e
  · split at e
    · rename_i a ea
      split at e
      · rename_i hz
        have e' := Option.some.inj e
        subst e'
        obtain ⟨p, vs, rfl, hs, rs⟩ := wx.seqL f ea
        exact .inr ⟨p, _, vs, rfl, wy.int, hs, hz.1, hz.2.1, by rw [rs.length]; exact hz.2.2, new_list f (rs.rep _) h⟩
      · cases e
    · cases e
  · cases e
def cDiv (_ j : Int) : Bool := decide (0 < j) && decide (j.natAbs < 2 ^ 8000)
theorem cDiv_ok (a b : Int) (h : cDiv a b = true) : CDivW a b := by
  unfold cDiv at h
  simp only [Bool.and_eq_true, decide_eq_true_eq] at h
  exact wide_div h.1 h.2 (by decide) (by decide)
abbrev oDiv := oI cDiv fun a b => .int (a / b)
theorem ov_div {k : Kc} : OpV k (rI CDivW fun i j => .int (i / j)) oDiv := ov_I cDiv_ok fun _ _ _ => .int _
abbrev oMod := oI (fun _ b => decide (0 < b)) fun a b => .int (a % b)
theorem ov_mod {k : Kc} : OpV k (rI (fun _ j => 0 < j) fun i j => .int (i % j)) oMod := ov_I (fun _ _ h => of_decide_eq_true h) fun _ _ _ => .int _
def cPow (i j : Int) : Bool := decide (0 ≤ j) && decide (j ≤ 1000000) && decide (i.natAbs < 2 ^ 64)
abbrev oPow := oI cPow fun a b => .int (a ^ b.toNat)
theorem ov_pow {k : Kc} : OpV k (rI CPow fun i j => .int (i ^ j.toNat)) oPow := ov_I (fun a b h => by
  unfold cPow at h
  simp only [Bool.and_eq_true, decide_eq_true_eq] at h
  exact ⟨h.1.1, h.1.2, h.2⟩) fun _ _ _ => .int _
abbrev oLt := oI0 fun a b => .bool (decide (a < b))
abbrev oLe := oI0 fun a b => .bool (decide (a ≤ b))
abbrev oGt := oI0 fun a b => .bool (decide (b < a))
abbrev oGe := oI0 fun a b => .bool (decide (b ≤ a))
theorem ov_lt {k : Kc} : OpV k (rI0 fun i j => .bl (decide (i < j))) oLt := ov_I0 fun _ _ _ => .bl _
theorem ov_le {k : Kc} : OpV k (rI0 fun i j => .bl (decide (i ≤ j))) oLe := ov_I0 fun _ _ _ => .bl _
theorem ov_gt {k : Kc} : OpV k (rI0 fun i j => .bl (decide (j < i))) oGt := ov_I0 fun _ _ _ => .bl _
theorem ov_ge {k : Kc} : OpV k (rI0 fun i j => .bl (decide (j ≤ i))) oGe := ov_I0 fun _ _ _ => .bl _
def oNeg : O → Option O
  | .fz (.int a) => some (.fz (.int (-a)))
  | _ => none
theorem uv_neg {k : Kc} : UnV k (rU fun i => .int (-i)) oNeg := by
  intro F H S x ox o Q f off th wx e h
  unfold oNeg at e
  split at e
  · have e' := Option.some.inj e
    subst e'
    exact ⟨_, wx.int, h _ F H (Xt.refl f) (.fz (.int _))⟩
  · cases e
/-! ### == and != -/
def rEqU (K : Frag) : R2 := fun x y H Q => rEq x y H Q ∨ rEqD K x y H Q
def rNeU (K : Frag) : R2 := fun x y H Q => rNe x y H Q ∨ rNeD K x y H Q
theorem op_eqU (hu : X.A.units + 64 < cLine) : OpR X (compareOp .Eq) (rEqU X.K) := op_eq.or (op_eqD hu)
theorem op_neU (hu : X.A.units + 64 < cLine) : OpR X (compareOp .NotEq) (rNeU X.K) := op_ne.or (op_neD hu)
def oEqD (x y : O) : Option O := match toPD x, toPD y with
  | some d, some e => if SeqAt.shaped d && SeqAt.shaped e then some (.fz (.bool (PyData.eqv d e))) else none
  | _, _ => none
def oNeD (x y : O) : Option O := match toPD x, toPD y with
  | some d, some e => if SeqAt.shaped d && SeqAt.shaped e then some (.fz (.bool (!PyData.eqv d e))) else none
  | _, _ => none
def strs2 : O → O → Option (Str × Str)
  | .fz (.str a), .fz (.str b) => some (a, b)
  | _, _ => none
def oEq (x y : O) : Option O := match strs2 x y with
  | some p => some (.fz (.bool (decide (p.1 = p.2))))
  | none => oEqD x y
def oNe (x y : O) : Option O := match strs2 x y with
  | some p => some (.fz (.bool (!decide (p.1 = p.2))))
  | none => oNeD x y
theorem strs2_eq {x y : O} {p : Str × Str} (e : strs2 x y = some p) : x = .fz (.str p.1) ∧ y = .fz (.str p.2) := by
  unfold strs2 at e
  split at e
  · have e' := Option.some.inj e
    subst e'
    exact ⟨rfl, rfl⟩
  · cases e
theorem dec_str (a b : Str) : decide (V.str a = V.str b) = decide (a = b) := decide_eq_decide.mpr ⟨fun e => V.str.inj e, fun e => by rw [e]⟩
theorem ov_eq {k : Kc} : OpV k (rEqU k.K) oEq := by
  intro F H S x y ox oy o Q f off th wx wy e h
  unfold oEq at e
  split at e
  · rename_i p ep
    obtain ⟨e1, e2⟩ := strs2_eq ep
    subst e1 e2
    have e' := Option.some.inj e
    subst e'
    have h1 := wx.str
    have h2 := wy.str
    subst h1 h2
    refine .inl ⟨rfl, ?_⟩
    rw [dec_str]
    exact h _ F H (Xt.refl f) (.fz (.bl _))
  · unfold oEqD at e
    split at e
    · rename_i d d2 e1 e2
      split at e
      · rename_i hz
        have hz := Bool.and_eq_true_iff.mp hz
        have e' := Option.some.inj e
        subst e'
        exact .inr ⟨d, d2, (wx.at_ f e1).dp (SeqAt.canLay_of_shaped hz.1), (wy.at_ f e2).dp (SeqAt.canLay_of_shaped hz.2), hz.1, hz.2, h _ F H (Xt.refl f) (.fz (.bl _))⟩
      · cases e
    · cases e
theorem ov_ne {k : Kc} : OpV k (rNeU k.K) oNe := by
  intro F H S x y ox oy o Q f off th wx wy e h
  unfold oNe at e
  split at e
  · rename_i p ep
    obtain ⟨e1, e2⟩ := strs2_eq ep
    subst e1 e2
    have e' := Option.some.inj e
    subst e'
    have h1 := wx.str
    have h2 := wy.str
    subst h1 h2
    refine .inl ⟨rfl, ?_⟩
    rw [dec_str]
    exact h _ F H (Xt.refl f) (.fz (.bl _))
  · unfold oNeD at e
    split at e
    · rename_i d d2 e1 e2
      split at e
      · rename_i hz
        have hz := Bool.and_eq_true_iff.mp hz
        have e' := Option.some.inj e
        subst e'
        exact .inr ⟨d, d2, (wx.at_ f e1).dp (SeqAt.canLay_of_shaped hz.1), (wy.at_ f e2).dp (SeqAt.canLay_of_shaped hz.2), hz.1, hz.2, h _ F H (Xt.refl f) (.fz (.bl _))⟩
      · cases e
    · cases e
/-! ### is None, is True -/
def rIsU : R2 := fun x y H Q => (y = .non ∧ Q (.bl (decide (x = .non))) H)
def oIsN (x y : O) : Option O := match y with
  | .fz .none => match toPD x with
    | some .none => some (.fz (.bool true))
    | some _ => some (.fz (.bool false))
    | none => none
  | _ => none
def oNotN (x y : O) : Option O := match y with
  | .fz .none => match toPD x with
    | some .none => some (.fz (.bool false))
    | some _ => some (.fz (.bool true))
    | none => none
  | _ => none
theorem Rep.non_iff {K : Frag} {H : Hp} {v : V} {d : PD} (h : Rep K H v d) : v = .non ↔ d = .none := by
  cases h with
  | dic _ _ e => subst e; simp
  | dit _ _ e => subst e; simp
  | _ => simp
theorem ov_isN {k : Kc} : OpV k (fun x y H Q => y = .non ∧ Q (.bl (decide (x = .non))) H) oIsN := by
  intro F H S x y ox oy o Q f off th wx wy e h
  unfold oIsN at e
  split at e
  · refine ⟨wy.non, ?_⟩
    split at e
    · rename_i e1
      have e' := Option.some.inj e
      subst e'
      rw [decide_eq_true ((wx.at_ f e1).non_iff.mpr rfl)]
      exact h _ F H (Xt.refl f) (.fz (.bl _))
    · rename_i d hd e1
      have e' := Option.some.inj e
      subst e'
      rw [decide_eq_false fun z => hd ((wx.at_ f e1).non_iff.mp z)]
      exact h _ F H (Xt.refl f) (.fz (.bl _))
    · cases e
  · cases e
theorem ov_notN {k : Kc} : OpV k (fun x y H Q => y = .non ∧ Q (.bl (!decide (x = .non))) H) oNotN := by
  intro F H S x y ox oy o Q f off th wx wy e h
  unfold oNotN at e
  split at e
  · refine ⟨wy.non, ?_⟩
    split at e
    · rename_i e1
      have e' := Option.some.inj e
      subst e'
      rw [decide_eq_true ((wx.at_ f e1).non_iff.mpr rfl)]
      exact h _ F H (Xt.refl f) (.fz (.bl _))
    · rename_i d hd e1
      have e' := Option.some.inj e
      subst e'
      rw [decide_eq_false fun z => hd ((wx.at_ f e1).non_iff.mp z)]
      exact h _ F H (Xt.refl f) (.fz (.bl _))
    · cases e
  · cases e
end
end FM
namespace FM
open PySem L2 PyProof.Rows
section
variable {X : Cx}
/-! ### is, of truths -/
def oIsB (x y : O) : Option O := match x, y with
  | .fz (.bool a), .fz (.bool b) => some (.fz (.bool (decide (a = b))))
  | _, _ => none
def oNotB (x y : O) : Option O := match x, y with
  | .fz (.bool a), .fz (.bool b) => some (.fz (.bool (!decide (a = b))))
  | _, _ => none
theorem ov_isB {k : Kc} : OpV k rIsB oIsB := by
  intro F H S x y ox oy o Q f off th wx wy e h
  unfold oIsB at e
  split at e
  · have e' := Option.some.inj e
    subst e'
    exact ⟨_, _, wx.bl, wy.bl, h _ F H (Xt.refl f) (.fz (.bl _))⟩
  · cases e
theorem ov_notB {k : Kc} : OpV k rNotB oNotB := by
  intro F H S x y ox oy o Q f off th wx wy e h
  unfold oNotB at e
  split at e
  · have e' := Option.some.inj e
    subst e'
    exact ⟨_, _, wx.bl, wy.bl, h _ F H (Xt.refl f) (.fz (.bl _))⟩
  · cases e

/-! ### dicts -/
def unkp : List (PD × PD) → Option (List (Key × PD))
  | [] => some []
  | (.int i, d) :: r => (unkp r).map fun z => (.inl i, d) :: z
  | (.str x, d) :: r => (unkp r).map fun z => (.inr x, d) :: z
  | _ :: _ => none
theorem unkp_kp : ∀ ds : List (Key × PD), unkp (ds.map kp) = some ds
  | [] => rfl
  | (.inl i, d) :: r => by
    show (unkp (r.map kp)).map _ = _
    rw [unkp_kp r]; rfl
  | (.inr i, d) :: r => by
    show (unkp (r.map kp)).map _ = _
    rw [unkp_kp r]; rfl
def unks : List PD → Option (List Key)
  | [] => some []
  | .int i :: r => (unks r).map fun z => .inl i :: z
  | .str x :: r => (unks r).map fun z => .inr x :: z
  | _ :: _ => none
theorem unks_keyD : ∀ ks : List Key, unks (ks.map keyD) = some ks
  | [] => rfl
  | .inl i :: r => by
    show (unks (r.map keyD)).map _ = _
    rw [unks_keyD r]; rfl
  | .inr i :: r => by
    show (unks (r.map keyD)).map _ = _
    rw [unks_keyD r]; rfl
def untp : List (PD × PD) → Option (List (List Key × PD))
  | [] => some []
  | (.tuple ks, d) :: r => match unks ks, untp r with
    | some k, some z => some ((k, d) :: z)
    | _, _ => none
  | _ :: _ => none
theorem untp_tp : ∀ ds : List (List Key × PD), untp (ds.map tp) = some ds
  | [] => rfl
  | (k, d) :: r => by
    show (match unks (k.map keyD), untp (r.map tp) with | some k, some z => some ((k, d) :: z) | _, _ => none) = _
    rw [unks_keyD, untp_tp r]
theorem unkp_tp {p : List Key × PD} {r : List (List Key × PD)} : unkp ((p :: r).map tp) = none := rfl
theorem untp_kp : ∀ {p : Key × PD} {r : List (Key × PD)}, untp ((p :: r).map kp) = none
  | (.inl _, _), _ => rfl
  | (.inr _, _), _ => rfl
/-- a dict by int and text keys -/
def dicK : O → Option (List (Key × PD))
  | .dic ds => some ds
  | .fz (.dict (p :: r)) => unkp (p :: r)
  | _ => none
def dicT : O → Option (List (List Key × PD))
  | .dit ds => some ds
  | .fz (.dict (p :: r)) => untp (p :: r)
  | _ => none
theorem Vw.dicK {k : Kc} {F H : Hp} {S : List Addr} {v : V} {o : O} {ds : List (Key × PD)} (h : Vw k F H S v o) (s : FLe F H) (e : FM.dicK o = some ds) : ∃ a vs, v = .ref a ∧ Rd H a (.dK vs) ∧ RepK k.K F vs ds := by
  obtain ⟨T, _, q⟩ := h
  unfold FM.dicK at e
  split at e
  · have e' := Option.some.inj e
    subst e'
    cases q with
    | dic h1 h2 => exact ⟨_, _, rfl, h1, h2⟩
  · cases q with
    | fz r =>
      cases r with
      | dic h1 h2 h3 =>
        have h3 := PyData.dict.inj h3
        rw [h3, unkp_kp] at e
        have e' := Option.some.inj e
        subst e'
        exact ⟨_, _, rfl, rd_le s h1, h2⟩
      | @dit a kvs ds2 _ h1 h2 h3 =>
        have h3 := PyData.dict.inj h3
        cases ds2 with
        | nil => cases h3
        | cons p r => rw [h3, unkp_tp] at e; cases e
  · cases e
theorem Vw.dicT {k : Kc} {F H : Hp} {S : List Addr} {v : V} {o : O} {ds : List (List Key × PD)} (h : Vw k F H S v o) (s : FLe F H) (e : FM.dicT o = some ds) : ∃ a vs, v = .ref a ∧ Rd H a (.dT vs) ∧ RepT k.K F vs ds := by
  obtain ⟨T, _, q⟩ := h
  unfold FM.dicT at e
  split at e
  · have e' := Option.some.inj e
    subst e'
    cases q with
    | dit h1 h2 => exact ⟨_, _, rfl, h1, h2⟩
  · cases q with
    | fz r =>
      cases r with
      | @dic a kvs ds2 _ h1 h2 h3 =>
        have h3 := PyData.dict.inj h3
        cases ds2 with
        | nil => cases h3
        | cons p r => rw [h3, untp_kp] at e; cases e
      | dit h1 h2 h3 =>
        have h3 := PyData.dict.inj h3
        rw [h3, untp_tp] at e
        have e' := Option.some.inj e
        subst e'
        exact ⟨_, _, rfl, rd_le s h1, h2⟩
  · cases e
def keyO : O → Option Key
  | .fz (.int i) => some (.inl i)
  | .fz (.str x) => some (.inr x)
  | _ => none
def keysO : O → Option (List Key)
  | .fz (.tuple ds) => unks ds
  | _ => none
theorem Vw.keyO {k : Kc} {F H : Hp} {S : List Addr} {v : V} {o : O} {x : Key} (h : Vw k F H S v o) (e : FM.keyO o = some x) : v = kV x := by
  unfold FM.keyO at e
  split at e
  · have e' := Option.some.inj e
    subst e'
    exact h.int
  · have e' := Option.some.inj e
    subst e'
    exact h.str
  · cases e
theorem Reps.keys {K : Frag} {F : Hp} : ∀ {vs : List V} {ds : List PD} {ks : List Key}, Reps K F vs ds → unks ds = some ks → vs = ks.map kV
  | _, _, _, .nil, e => by
    have e' := Option.some.inj e
    subst e'
    rfl
  | _, _, _, .cons (d := d) (ds := ds) h r, e => by
    cases d with
    | int i =>
      have e : (unks ds).map _ = some _ := e
      cases q : unks ds with
      | none => rw [q] at e; cases e
      | some z =>
        rw [q] at e
        have e' := Option.some.inj e
        subst e'
        rw [Reps.keys r q]
        cases h with
        | int => rfl
        | dic _ _ e => cases e
        | dit _ _ e => cases e
    | str i =>
      have e : (unks ds).map _ = some _ := e
      cases q : unks ds with
      | none => rw [q] at e; cases e
      | some z =>
        rw [q] at e
        have e' := Option.some.inj e
        subst e'
        rw [Reps.keys r q]
        cases h with
        | str => rfl
        | dic _ _ e => cases e
        | dit _ _ e => cases e
    | _ => cases e
theorem Vw.keysO {k : Kc} {F H : Hp} {S : List Addr} {v : V} {o : O} {x : List Key} (h : Vw k F H S v o) (f : FLe F H) (e : FM.keysO o = some x) : ∃ b, v = .ref b ∧ H b = some (.tup (x.map kV)) := by
  unfold FM.keysO at e
  split at e
  · obtain ⟨a, vs, rfl, h1, h2⟩ := h.seqT f rfl
    rw [h2.keys e] at h1
    exact ⟨a, rfl, h1⟩
  · cases e
def lk {κ : Type} [DecidableEq κ] {α : Type} (kvs : List (κ × α)) (k : κ) : Option α := (kvs.find? fun p => decide (p.1 = k)).map (·.2)
theorem RepK.val {K : Frag} {F : Hp} (x : Key) : ∀ {vs : List (Key × V)} {ds : List (Key × PD)}, RepK K F vs ds → (lk ds x = none ∧ valV vs x = none) ∨ ∃ d v, lk ds x = some d ∧ valV vs x = some v ∧ Rep K F v d
  | _, _, .nil => .inl ⟨rfl, rfl⟩
  | _, _, .cons (k := k) h r => by
    by_cases e : k = x
    · refine .inr ⟨_, _, ?_, valV_pos e, h⟩
      simp [lk, List.find?_cons, e]
    · rcases RepK.val x r with ⟨q1, q2⟩ | ⟨d, v, q1, q2, q3⟩
      · refine .inl ⟨?_, by rw [valV_neg e]; exact q2⟩
        simpa [lk, List.find?_cons, e] using q1
      · refine .inr ⟨d, v, ?_, by rw [valV_neg e]; exact q2, q3⟩
        simpa [lk, List.find?_cons, e] using q1
theorem RepT.val {K : Frag} {F : Hp} (x : List Key) : ∀ {vs : List (List Key × V)} {ds : List (List Key × PD)}, RepT K F vs ds → (lk ds x = none ∧ valV vs x = none) ∨ ∃ d v, lk ds x = some d ∧ valV vs x = some v ∧ Rep K F v d
  | _, _, .nil => .inl ⟨rfl, rfl⟩
  | _, _, .cons (k := k) h r => by
    by_cases e : k = x
    · refine .inr ⟨_, _, ?_, valV_pos e, h⟩
      simp [lk, List.find?_cons, e]
    · rcases RepT.val x r with ⟨q1, q2⟩ | ⟨d, v, q1, q2, q3⟩
      · refine .inl ⟨?_, by rw [valV_neg e]; exact q2⟩
        simpa [lk, List.find?_cons, e] using q1
      · refine .inr ⟨d, v, ?_, by rw [valV_neg e]; exact q2, q3⟩
        simpa [lk, List.find?_cons, e] using q1
/-- what a dict holds at a key -/
def oLook (d x : O) : Option (Option PD) := match dicK d, keyO x with
  | some ds, some k => some (lk ds k)
  | _, _ => match dicT d, keysO x with
    | some ds, some k => some (lk ds k)
    | _, _ => none
theorem look_ok {k : Kc} {F H : Hp} {S : List Addr} {x y : V} {ox oy : O} {r : Option PD} (wx : Vw k F H S x ox) (wy : Vw k F H S y oy) (f : FLe F H) (e : oLook ox oy = some r) :
    ∃ a z, x = .ref a ∧ DGet H a y z ∧ ((r = none ∧ z = none) ∨ ∃ d v, r = some d ∧ z = some v ∧ Rep k.K F v d) := by
  unfold oLook at e
  split at e
  · rename_i ds kk e1 e2
    have e' := Option.some.inj e
    subst e'
    obtain ⟨a, vs, rfl, h1, h2⟩ := wx.dicK f e1
    refine ⟨a, valV vs kk, rfl, .inl ⟨vs, kk, h1, wy.keyO e2, rfl⟩, ?_⟩
    exact h2.val kk
  · split at e
    · rename_i ds kk e1 e2
      have e' := Option.some.inj e
      subst e'
      obtain ⟨a, vs, rfl, h1, h2⟩ := wx.dicT f e1
      obtain ⟨b, rfl, h3⟩ := wy.keysO f e2
      refine ⟨a, valV vs kk, rfl, .inr ⟨vs, kk, b, h1, rfl, h3, rfl⟩, ?_⟩
      exact h2.val kk
    · cases e
def rIxD : R2 := fun x y H Q => ∃ a v, x = .ref a ∧ DGet H a y (some v) ∧ Q v H
theorem ix_dict (hu : X.A.units + 1 < cLine) : IxR X rIxD := by
  intro value slice pins s σ H x y v u Q I rx ry h hs
  obtain ⟨a, z, rfl, g, q⟩ := h
  cases rx
  exact tail_any (dict_typeIs I g) PySem.F.slot_dict_getitem.lookup (d_getItem hu I g ry fun w' s' I' r => ⟨z, H, I', r, q⟩) hs
def rIxU (K : Frag) : R2 := fun x y H Q => rIx K x y H Q ∨ rIxD x y H Q
theorem ix_U (hu : X.A.units + 1 < cLine) : IxR X (rIxU X.K) := ix_seq.or (ix_dict hu)
/-- x[i] -/
def oIx (x y : O) : Option O := match y with
  | .fz (.int i) => match seqL x with
    | some ds => (atI ds i).map .fz
    | none => match seqR x with
      | some ds => (atI ds i).map .fz
      | none => match x with
        | .fz (.str z) => if z.length ≤ sizeLine then (atI z.cps.toList i).map fun c => .fz (.str ⟨#[c]⟩) else none
        | .nst os => atI os i
        | .ntp os => atI os i
        | x => match oLook x y with
          | some (some d) => some (.fz d)
          | _ => none
  | y => match oLook x y with
    | some (some d) => some (.fz d)
    | _ => match x, keyO y with
      | .ndc os, some k => lk os k
      | _, _ => none
theorem Reps.at_ {K : Frag} {F : Hp} {vs : List V} {ds : List PD} {i : Int} {d : PD} (r : Reps K F vs ds) (e : atI ds i = some d) : ∃ v, atI vs i = some v ∧ Rep K F v d := by
  unfold atI at e ⊢
  rw [r.length]
  cases q : ixN ds.length i with
  | none => rw [q] at e; cases e
  | some j =>
    rw [q] at e
    exact r.get (i := j) e
inductive Ows (k : Kc) (F H : Hp) (S : List Addr) : List V → List O → Prop
  | nil : Ows k F H S [] []
  | cons {v : V} {o : O} {vs : List V} {os : List O} : Vw k F H S v o → Ows k F H S vs os → Ows k F H S (v :: vs) (o :: os)
theorem Owns.views {k : Kc} {F H : Hp} {U : List Addr} : ∀ {vs : List V} {os : List O} {S : List Addr}, (∀ a ∈ S, a ∈ U) → Owns k F H vs os S → Ows k F H U vs os
  | _, _, _, _, .nil => .nil
  | _, _, _, m, .cons h r => .cons ⟨_, fun a z => m a (List.mem_append_left _ z), h⟩ (Owns.views (fun a z => m a (List.mem_append_right _ z)) r)
theorem Ows.length {k : Kc} {F H : Hp} {S : List Addr} : ∀ {vs : List V} {os : List O}, Ows k F H S vs os → vs.length = os.length
  | _, _, .nil => rfl
  | _, _, .cons _ r => congrArg (· + 1) (Ows.length r)
theorem Ows.get {k : Kc} {F H : Hp} {S : List Addr} : ∀ {vs : List V} {os : List O} {i : Nat} {o : O}, Ows k F H S vs os → os[i]? = some o → ∃ v, vs[i]? = some v ∧ Vw k F H S v o
  | _, _, _, _, .nil, e => by simp at e
  | _, _, 0, _, .cons h r, e => by
    have e' : _ = _ := Option.some.inj (by simpa using e)
    subst e'
    exact ⟨_, rfl, h⟩
  | _, _, i + 1, _, .cons h r, e => by
    obtain ⟨v, q, w⟩ := Ows.get (i := i) r (by simpa using e)
    exact ⟨v, by simpa using q, w⟩
theorem Ows.at_ {k : Kc} {F H : Hp} {S : List Addr} {vs : List V} {os : List O} {i : Int} {o : O} (r : Ows k F H S vs os) (e : atI os i = some o) : ∃ v, atI vs i = some v ∧ Vw k F H S v o := by
  unfold atI at e ⊢
  rw [r.length]
  cases q : ixN os.length i with
  | none => rw [q] at e; cases e
  | some j =>
    rw [q] at e
    exact r.get (i := j) e
theorem OwnK.val {k : Kc} {F H : Hp} {U : List Addr} (x : Key) : ∀ {vs : List (Key × V)} {os : List (Key × O)} {S : List Addr} {o : O}, (∀ a ∈ S, a ∈ U) → OwnK k F H vs os S → lk os x = some o → ∃ v, valV vs x = some v ∧ Vw k F H U v o
  | _, _, _, _, _, .nil, e => by cases e
  | _, _, _, o, m, .cons (x := y) (o := o1) (os := os) h r, e => by
    by_cases q : y = x
    · have e1 : some o1 = some o := by simpa [lk, List.find?_cons, q] using e
      have e' := Option.some.inj e1
      subst e'
      exact ⟨_, valV_pos q, _, fun a z => m a (List.mem_append_left _ z), h⟩
    · have e1 : lk os x = some o := by simpa [lk, List.find?_cons, q] using e
      obtain ⟨v, h1, h2⟩ := OwnK.val x (fun a z => m a (List.mem_append_right _ z)) r e1
      exact ⟨v, by rw [valV_neg q]; exact h1, h2⟩
theorem ov_ix {k : Kc} : OpV k (rIxU k.K) oIx := by
  intro F H S x y ox oy o Q f off th wx wy e h
  have dict : ∀ {d : PD}, oLook ox oy = some (some d) → o = .fz d → rIxU k.K x y H Q := fun {d} e1 e2 => by
    subst e2
    obtain ⟨a, z, rfl, g, r⟩ := look_ok wx wy f e1
    rcases r with ⟨r, _⟩ | ⟨d', v, r1, r2, r3⟩
    · cases r
    · have r1' := Option.some.inj r1
      subst r1'
      subst r2
      exact .inr ⟨a, v, rfl, g, h _ F H (Xt.refl f) (.fz r3)⟩
  unfold oIx at e
  split at e
  · split at e
    · rename_i ds es
      obtain ⟨a, vs, rfl, h1, h2⟩ := wx.seqL f es
      obtain ⟨d, e1, e2⟩ := Option.map_eq_some_iff.mp e
      subst e2
      obtain ⟨v, h3, h4⟩ := h2.at_ e1
      exact .inl (.inl ⟨a, vs, _, v, rfl, wy.int, h1, h3, h _ F H (Xt.refl f) (.fz h4)⟩)
    · split at e
      · rename_i ds es
        obtain ⟨a, vs, rfl, h1, h2⟩ := wx.seqR f es
        obtain ⟨d, e1, e2⟩ := Option.map_eq_some_iff.mp e
        subst e2
        obtain ⟨v, h3, h4⟩ := h2.at_ e1
        exact .inl (.inr (.inl ⟨a, vs, _, v, rfl, wy.int, h1, h3, h _ F H (Xt.refl f) (.fz h4)⟩))
      · split at e
        · split at e
          · rename_i hz
            obtain ⟨c, e1, e2⟩ := Option.map_eq_some_iff.mp e
            subst e2
            exact .inl (.inr (.inr ⟨_, _, c, wx.str, wy.int, hz, e1, h _ F H (Xt.refl f) (.fz (.str _))⟩))
          · cases e
        · obtain ⟨T, m, q⟩ := wx
          cases q with
          | nst h1 h2 =>
            obtain ⟨v, h3, h4⟩ := (Owns.views (fun a z => m a (List.mem_cons_of_mem _ z)) h2).at_ e
            exact .inl (.inl ⟨_, _, _, v, rfl, wy.int, .inl h1, h3, h _ F H (Xt.refl f) h4⟩)
        · obtain ⟨T, m, q⟩ := wx
          cases q with
          | ntp h1 hg2 h2 =>
            obtain ⟨v, h3, h4⟩ := (Owns.views (fun a z => m a (List.mem_cons_of_mem _ z)) h2).at_ e
            exact .inl (.inr (.inl ⟨_, _, _, v, rfl, wy.int, SqT.of h1, h3, h _ F H (Xt.refl f) h4⟩))
        · split at e
          · rename_i e1
            exact dict e1 (Option.some.inj e).symm
          · cases e
  · split at e
    · rename_i e1
      exact dict e1 (Option.some.inj e).symm
    · split at e
      · rename_i os kk e2 _
        obtain ⟨T, m, q⟩ := wx
        cases q with
        | ndc h1 h2 =>
          obtain ⟨v, h3, h4⟩ := OwnK.val kk (fun a z => m a (List.mem_cons_of_mem _ z)) h2 e
          exact .inr ⟨_, v, rfl, .inl ⟨_, kk, h1, wy.keyO e2, h3.symm⟩, h _ F H (Xt.refl f) h4⟩
      · cases e
end
end FM
namespace FM
open PySem L2 PyProof.Rows
section
variable {X : Cx}
/-! ### in -/
theorem op_inT (hu : X.A.units + 65 < cLine) : OpR X (compareOp .In) (fun x y H Q => ∃ d ds, Dp X.K H x d ∧ Dp X.K H y (.tuple ds) ∧ SeqAt.shaped d = true ∧ SeqAt.shaped (.tuple ds) = true ∧ Q (.bl (ds.any fun z => PyData.eqv z d)) H) := by
  intro pins s σ H x y v u Q I rx ry h
  obtain ⟨d, ds, hd, he, sd, se, q⟩ := h
  obtain ⟨as, r1⟩ := Dp.reads I d x v hd rx
  obtain ⟨bs, r2⟩ := Dp.reads I (.tuple ds) y u he ry
  exact SeqAt.in_tuple_reads r2 r1 (SeqAt.canLay_of_shaped se) (SeqAt.canLay_of_shaped sd) (room_in_shaped sd hu) ⟨.bl _, H, I, rfl, q⟩
theorem op_notInT (hu : X.A.units + 65 < cLine) : OpR X (compareOp .NotIn) (fun x y H Q => ∃ d ds, Dp X.K H x d ∧ Dp X.K H y (.tuple ds) ∧ SeqAt.shaped d = true ∧ SeqAt.shaped (.tuple ds) = true ∧ Q (.bl (!ds.any fun z => PyData.eqv z d)) H) := by
  intro pins s σ H x y v u Q I rx ry h
  obtain ⟨d, ds, hd, he, sd, se, q⟩ := h
  obtain ⟨as, r1⟩ := Dp.reads I d x v hd rx
  obtain ⟨bs, r2⟩ := Dp.reads I (.tuple ds) y u he ry
  exact SeqAt.notIn_tuple_reads r2 r1 (SeqAt.canLay_of_shaped se) (SeqAt.canLay_of_shaped sd) (room_in_shaped sd hu) ⟨.bl _, H, I, rfl, q⟩
def rIn1 : R2 := fun x y H Q => ∃ i j, x = .str i ∧ y = .str j ∧ Q (.bl (!(Builtin.Str.occurrences j i 0 j.length 1).isEmpty)) H
def rNin1 : R2 := fun x y H Q => ∃ i j, x = .str i ∧ y = .str j ∧ Q (.bl (!(!(Builtin.Str.occurrences j i 0 j.length 1).isEmpty))) H
def rInDc : R2 := fun x y H Q => ∃ a o, y = .ref a ∧ DGet H a x o ∧ Q (.bl o.isSome) H
def rNinDc : R2 := fun x y H Q => ∃ a o, y = .ref a ∧ DGet H a x o ∧ Q (.bl (!o.isSome)) H
theorem op_inDc (hu : X.A.units + 1 < cLine) : OpR X (compareOp .In) rInDc := by
  intro pins s σ H x y v u Q I rx ry h
  obtain ⟨a, o, rfl, g, q⟩ := h
  cases ry
  exact d_in hu I g rx fun s' I' => ⟨.bl _, H, I', rfl, q⟩
theorem op_ninDc (hu : X.A.units + 1 < cLine) : OpR X (compareOp .NotIn) rNinDc := by
  intro pins s σ H x y v u Q I rx ry h
  obtain ⟨a, o, rfl, g, q⟩ := h
  cases ry
  exact d_notIn hu I g rx fun s' I' => ⟨.bl _, H, I', rfl, q⟩
def rInU (K : Frag) : R2 := fun x y H Q => rInD K x y H Q ∨ ((∃ d ds, Dp K H x d ∧ Dp K H y (.tuple ds) ∧ SeqAt.shaped d = true ∧ SeqAt.shaped (.tuple ds) = true ∧ Q (.bl (ds.any fun z => PyData.eqv z d)) H) ∨ (rIn1 x y H Q ∨ rInDc x y H Q))
def rNinU (K : Frag) : R2 := fun x y H Q => rNotInD K x y H Q ∨ ((∃ d ds, Dp K H x d ∧ Dp K H y (.tuple ds) ∧ SeqAt.shaped d = true ∧ SeqAt.shaped (.tuple ds) = true ∧ Q (.bl (!ds.any fun z => PyData.eqv z d)) H) ∨ (rNin1 x y H Q ∨ rNinDc x y H Q))
theorem op_inU (hu : X.A.units + 65 < cLine) : OpR X (compareOp .In) (rInU X.K) := (op_inD hu).or ((op_inT hu).or (OpR.or op_in_str (op_inDc (by omega))))
theorem op_ninU (hu : X.A.units + 65 < cLine) : OpR X (compareOp .NotIn) (rNinU X.K) := (op_notInD hu).or ((op_notInT hu).or (OpR.or op_notin_str (op_ninDc (by omega))))
/-- is x among y -/
def bIn (x y : O) : Option Bool := match x, y with
  | .fz (.str i), .fz (.str j) => some (!(Builtin.Str.occurrences j i 0 j.length 1).isEmpty)
  | x, y => match toPD x, seqL y with
    | some d, some ds => if SeqAt.shaped d && SeqAt.shaped (.list ds) then some (ds.any fun z => PyData.eqv z d) else none
    | some d, none => match seqR y with
      | some ds => if SeqAt.shaped d && SeqAt.shaped (.tuple ds) then some (ds.any fun z => PyData.eqv z d) else none
      | none => match oLook y x with
        | some r => some r.isSome
        | none => none
    | none, _ => none
def oIn (x y : O) : Option O := (bIn x y).map fun b => .fz (.bool b)
def oNin (x y : O) : Option O := (bIn x y).map fun b => .fz (.bool (!b))
theorem bin_ok {k : Kc} {F H : Hp} {S : List Addr} {x y : V} {ox oy : O} {b : Bool} (f : FLe F H) (wx : Vw k F H S x ox) (wy : Vw k F H S y oy) (e : bIn ox oy = some b) :
    (∀ Q : VK, Q (.bl b) H → rInU k.K x y H Q) ∧ (∀ Q : VK, Q (.bl (!b)) H → rNinU k.K x y H Q) := by
  unfold bIn at e
  split at e
  · have e' := Option.some.inj e
    subst e'
    exact ⟨fun Q h => .inr (.inr (.inl ⟨_, _, wx.str, wy.str, h⟩)), fun Q h => .inr (.inr (.inl ⟨_, _, wx.str, wy.str, h⟩))⟩
  · split at e
    · rename_i d ds e1 e2
      split at e
      · rename_i hz
        have hz := Bool.and_eq_true_iff.mp hz
        have e' := Option.some.inj e
        subst e'
        obtain ⟨a, vs, rfl, h1, h2⟩ := wy.seqL f e2
        have p1 := (wx.at_ f e1).dp (SeqAt.canLay_of_shaped hz.1)
        have p2 : Dp k.K H (.ref a) (.list ds) := (Rep.lst h1 (h2.le f)).dp (SeqAt.canLay_of_shaped hz.2)
        exact ⟨fun Q h => .inl ⟨d, ds, p1, p2, hz.1, hz.2, h⟩, fun Q h => .inl ⟨d, ds, p1, p2, hz.1, hz.2, h⟩⟩
      · cases e
    · rename_i d e1 e2
      split at e
      · rename_i ds e3
        split at e
        · rename_i hz
          have hz := Bool.and_eq_true_iff.mp hz
          have e' := Option.some.inj e
          subst e'
          obtain ⟨a, vs, rfl, h1, h2⟩ := wy.seqR f e3
          have p1 := (wx.at_ f e1).dp (SeqAt.canLay_of_shaped hz.1)
          have p2 : Dp k.K H (.ref a) (.tuple ds) := .tup h1 ((h2.le f).dp (by
            have := SeqAt.canLay_of_shaped hz.2
            simpa [PyData.canLay0] using this))
          exact ⟨fun Q h => .inr (.inl ⟨d, ds, p1, p2, hz.1, hz.2, h⟩), fun Q h => .inr (.inl ⟨d, ds, p1, p2, hz.1, hz.2, h⟩)⟩
        · cases e
      · split at e
        · rename_i r e4
          have e' := Option.some.inj e
          subst e'
          obtain ⟨a, z, rfl, g, q⟩ := look_ok wy wx f e4
          have ez : z.isSome = r.isSome := by
            rcases q with ⟨q1, q2⟩ | ⟨d', v, q1, q2, _⟩ <;> rw [q1, q2] <;> rfl
          exact ⟨fun Q h => .inr (.inr (.inr ⟨a, z, rfl, g, by rw [ez]; exact h⟩)), fun Q h => .inr (.inr (.inr ⟨a, z, rfl, g, by rw [ez]; exact h⟩))⟩
        · cases e
    · cases e
theorem ov_in {k : Kc} : OpV k (rInU k.K) oIn := by
  intro F H S x y ox oy o Q f off th wx wy e h
  obtain ⟨b, e1, e2⟩ := Option.map_eq_some_iff.mp e
  subst e2
  exact (bin_ok f wx wy e1).1 Q (h _ F H (Xt.refl f) (.fz (.bl _)))
theorem ov_nin {k : Kc} : OpV k (rNinU k.K) oNin := by
  intro F H S x y ox oy o Q f off th wx wy e h
  obtain ⟨b, e1, e2⟩ := Option.map_eq_some_iff.mp e
  subst e2
  exact (bin_ok f wx wy e1).2 Q (h _ F H (Xt.refl f) (.fz (.bl _)))
/-! ### slices -/
def rSlU (K : Frag) : V → Option Int → Option Int → Hp → VK → Prop := fun x lo hi H Q => rSlL K x lo hi H Q ∨ (rSlA K x lo hi H Q ∨ rSlS x lo hi H Q)
theorem sl_U : SlR X (rSlU X.K) := sl_list.or (sl_tupA.or sl_str)
def cut {α : Type} (xs : List α) (lo hi : Option Int) : List α := (xs.drop (HT.sIx xs.length 0 lo)).take (HT.sIx xs.length xs.length hi - HT.sIx xs.length 0 lo)
theorem Reps.cut {K : Frag} {F : Hp} {vs : List V} {ds : List PD} (r : Reps K F vs ds) (lo hi : Option Int) : Reps K F (cutV vs lo hi) (FM.cut ds lo hi) := by
  unfold cutV FM.cut
  rw [r.length]
  exact (r.drop _).take _
theorem cut_whole {α : Type} {xs : List α} {lo hi : Option Int} (h : HT.sIx xs.length 0 lo = 0 ∧ HT.sIx xs.length xs.length hi = xs.length) : FM.cut xs lo hi = xs := by
  unfold FM.cut
  rw [h.1, h.2]
  simp
def oSl (x : O) (lo hi : Option Int) : Option O := match seqL x with
  | some ds => some (.fz (.list (cut ds lo hi)))
  | none => match x with
    | .fz (.tuple ds) => some (.fz (.tuple (cut ds lo hi)))
    | .fz (.str z) => if z.length ≤ sizeLine then some (.fz (.str (cutS z lo hi))) else none
    | _ => none
def qSl (a : QE) (lo hi : List O → Option (Option Int)) : QE := fun ρ => match a ρ with
  | none => none
  | some x => match lo ρ with
    | none => none
    | some l => match hi ρ with
      | none => none
      | some u => oSl x l u
def qNo : List O → Option (Option Int) := fun _ => some none
def qPart (a : QE) : List O → Option (Option Int) := fun ρ => match a ρ with
  | some (.fz (.int i)) => some (some i)
  | _ => none
theorem tov_no {k : Kc} : TOv k tNoPart qNo := by
  intro F H σ ρ S b Q q e h
  have e' := Option.some.inj e
  subst e'
  exact h F H (Xt.refl q.fle)
theorem tov_part {k : Kc} {te : TE} {qa : QE} (ha : TEv k te qa) : TOv k (tPart te) (qPart qa) := by
  intro F H σ ρ S b Q q e h
  unfold qPart at e
  split at e
  · rename_i i e1
    have e' := Option.some.inj e
    subst e'
    exact ha F H σ ρ S _ _ q e1 fun v F1 H1 x1 w1 => ⟨i, w1.int, h F1 H1 x1⟩
  · cases e
theorem tev_sl {k : Kc} {te : TE} {tl th : TO} {qa : QE} {ql qh : List O → Option (Option Int)} (ha : TEv k te qa) (hl : TOv k tl ql) (hh : TOv k th qh) : TEv k (tSl (rSlU k.K) te tl th) (qSl qa ql qh) := by
  intro F H σ ρ S o Q q e h
  unfold qSl at e
  cases e1 : qa ρ with
  | none => rw [e1] at e; cases e
  | some x =>
    rw [e1] at e
    cases e2 : ql ρ with
    | none => simp only [e2] at e; cases e
    | some l =>
      simp only [e2] at e
      cases e3 : qh ρ with
      | none => simp only [e3] at e; cases e
      | some u =>
        simp only [e3] at e
        refine ha F H σ ρ S x _ q e1 fun v F1 H1 x1 w1 => ?_
        have q1 := q.xt x1
        refine hl F1 H1 σ ρ S l _ q1 e2 fun F2 H2 x2 => ?_
        have q2 := q1.xt x2
        refine hh F2 H2 σ ρ S u _ q2 e3 fun F3 H3 x3 => ?_
        have w3 := (w1.xt x2).xt x3
        have h3 : ∀ v F' H', Xt F3 H3 F' H' → Vw k F' H' S v o → Q v H' := fun v F' H' x w => h v F' H' (((x1.trans x2).trans x3).trans x) w
        unfold oSl at e
        split at e
        · rename_i ds es
          have e' := Option.some.inj e
          subst e'
          obtain ⟨a, vs, rfl, g1, g2⟩ := w3.seqL x3.fle es
          exact .inl ⟨a, vs, rfl, g1, new_list x3.fle (g2.cut l u) h3⟩
        · split at e
          · rename_i ds _
            have e' := Option.some.inj e
            subst e'
            obtain ⟨a, vs, rfl, g1, g2⟩ := w3.seqT x3.fle rfl
            refine .inr (.inl ⟨a, vs, rfl, SqT.of g1, fun z => ?_, fun _ => new_tuple x3.fle (g2.cut l u) h3⟩)
            rw [g2.length] at z
            rw [cut_whole z] at h3
            exact h3 _ F3 H3 (Xt.refl x3.fle) w3
          · split at e
            · rename_i hz
              have e' := Option.some.inj e
              subst e'
              exact .inr (.inr ⟨_, w3.str, hz, h3 _ F3 H3 (Xt.refl x3.fle) (.fz (.str _))⟩)
            · cases e
          · cases e
/-! ### len -/
def rLenU (K : Frag) : List V → Hp → VK → Prop := fun xs H Q => (∃ x n, xs = [x] ∧ LenV K x H n ∧ Q (.int n) H) ∨ ∃ a kvs, xs = [.ref a] ∧ Rd H a (.dK kvs) ∧ Q (.int (kvs.length : Int)) H
theorem call_lenU : CallR X (.builtin "len") (rLenU X.K) := by
  refine CallR.or call_len ?_
  intro pins s σ H xs us Q I r h
  obtain ⟨a, kvs, rfl, hd, q⟩ := h
  obtain ⟨u, rfl, ru⟩ := vals1 r
  cases ru
  exact d_len I hd fun t s' I' => ⟨.int _, H, I', ⟨t, rfl⟩, q⟩
def oLen1 (x : O) : Option O := match seqL x with
  | some ds => some (.fz (.int ds.length))
  | none => match seqR x with
    | some ds => some (.fz (.int ds.length))
    | none => match x with
      | .fz (.str z) => if z.length ≤ sizeLine then some (.fz (.int z.length)) else none
      | .nst os => some (.fz (.int os.length))
      | .ntp os => some (.fz (.int os.length))
      | x => match dicK x with
        | some ds => some (.fz (.int ds.length))
        | none => none
def oLen : List O → Option O
  | [x] => oLen1 x
  | _ => none
theorem RepK.length {K : Frag} {F : Hp} : ∀ {vs : List (Key × V)} {ds : List (Key × PD)}, RepK K F vs ds → vs.length = ds.length
  | _, _, .nil => rfl
  | _, _, .cons _ r => congrArg (· + 1) (RepK.length r)
theorem Owns.length {k : Kc} {F H : Hp} : ∀ {vs : List V} {os : List O} {S : List Addr}, Owns k F H vs os S → vs.length = os.length
  | _, _, _, .nil => rfl
  | _, _, _, .cons _ r => congrArg (· + 1) (Owns.length r)
theorem cb_len {k : Kc} : CbV k (rLenU k.K) oLen := by
  intro F H S xs os o Q f off th ws e h
  unfold oLen at e
  split at e
  · cases ws with
    | cons w ws =>
      cases ws
      have fin : ∀ {n : Nat}, o = .fz (.int n) → Q (.int (n : Int)) H := fun e' => by
        subst e'
        exact h _ F H (Xt.refl f) (.fz (.int _))
      unfold oLen1 at e
      split at e
      · rename_i ds es
        obtain ⟨a, vs, rfl, g1, g2⟩ := w.seqL f es
        exact .inl ⟨_, vs.length, rfl, .inl ⟨vs, g1, rfl⟩, fin (by rw [g2.length]; exact (Option.some.inj e).symm)⟩
      · split at e
        · rename_i ds es
          obtain ⟨a, vs, rfl, g1, g2⟩ := w.seqR f es
          exact .inl ⟨_, vs.length, rfl, .inr ⟨vs, g1, rfl⟩, fin (by rw [g2.length]; exact (Option.some.inj e).symm)⟩
        · split at e
          · split at e
            · rename_i hz
              have ew := w.str
              subst ew
              exact .inl ⟨_, _, rfl, ⟨hz, rfl⟩, fin (Option.some.inj e).symm⟩
            · cases e
          · obtain ⟨T, m, q⟩ := w
            cases q with
            | nst h1 h2 => exact .inl ⟨_, _, rfl, .inl ⟨_, .inl h1, rfl⟩, fin (by rw [h2.length]; exact (Option.some.inj e).symm)⟩
          · obtain ⟨T, m, q⟩ := w
            cases q with
            | ntp h1 hg2 h2 => exact .inl ⟨_, _, rfl, .inr ⟨_, SqT.of h1, rfl⟩, fin (by rw [h2.length]; exact (Option.some.inj e).symm)⟩
          · split at e
            · rename_i ds es
              obtain ⟨a, vs, rfl, g1, g2⟩ := w.dicK f es
              exact .inr ⟨a, vs, rfl, g1, fin (by rw [g2.length]; exact (Option.some.inj e).symm)⟩
            · cases e
  · cases e
/-! ### list(x), tuple(x) -/
def rListU (K : Frag) : List V → Hp → VK → Prop := fun xs H Q => ∃ p ys, xs = [.ref p] ∧ (SqL K H p ys ∨ SqT K H p ys) ∧ ∀ l, H l = none → Q (.ref l) (upd H l (.lst ys))
def oList : List O → Option O
  | [x] => match seqL x with
    | some ds => some (.lst ds)
    | none => match seqR x with
      | some ds => some (.lst ds)
      | none => none
  | _ => none
theorem cn_list {k : Kc} : CbN k (rListU k.K) oList := by
  intro F H S xs os o Q f off th ws e h
  unfold oList at e
  split at e
  · cases ws with
    | cons w ws =>
      cases ws
      split at e
      · rename_i ds es
        have e' := Option.some.inj e
        subst e'
        obtain ⟨a, vs, rfl, g1, g2⟩ := w.seqL f es
        exact ⟨a, vs, rfl, .inl g1, own_list f g2 h⟩
      · split at e
        · rename_i ds es
          have e' := Option.some.inj e
          subst e'
          obtain ⟨a, vs, rfl, g1, g2⟩ := w.seqR f es
          exact ⟨a, vs, rfl, .inr g1, own_list f g2 h⟩
        · cases e
  · cases e
def rTupU (K : Frag) : List V → Hp → VK → Prop := fun xs H Q => ∃ p ys, xs = [.ref p] ∧ ((SqL K H p ys ∧ ∀ l, H l = none → Q (.ref l) (upd H l (.tup ys))) ∨ (SqT K H p ys ∧ Q (.ref p) H))
def oTuple : List O → Option O
  | [x] => match seqL x with
    | some ds => some (.fz (.tuple ds))
    | none => match x with
      | .fz (.tuple ds) => some (.fz (.tuple ds))
      | _ => none
  | _ => none
theorem cb_tuple {k : Kc} : CbV k (rTupU k.K) oTuple := by
  intro F H S xs os o Q f off th ws e h
  unfold oTuple at e
  split at e
  · cases ws with
    | cons w ws =>
      cases ws
      split at e
      · rename_i ds es
        have e' := Option.some.inj e
        subst e'
        obtain ⟨a, vs, rfl, g1, g2⟩ := w.seqL f es
        exact ⟨a, vs, rfl, .inl ⟨g1, new_tuple f g2 h⟩⟩
      · split at e
        · have e' := Option.some.inj e
          subst e'
          obtain ⟨a, vs, rfl, g1, g2⟩ := w.seqT f rfl
          exact ⟨a, vs, rfl, .inr ⟨SqT.of g1, h _ F H (Xt.refl f) w⟩⟩
        · cases e
  · cases e
/-! ### small builtins -/
def oAbs : List O → Option O
  | [.fz (.int i)] => some (.fz (.int (if i < 0 then -i else i)))
  | _ => none
theorem cb_abs {k : Kc} : CbV k (fun xs H Q => ∃ i, xs = [.int i] ∧ Q (.int (if i < 0 then -i else i)) H) oAbs := by
  intro F H S xs os o Q f off th ws e h
  unfold oAbs at e
  split at e
  · have e' := Option.some.inj e
    subst e'
    cases ws with
    | cons w ws =>
      cases ws
      have ew := w.int
      subst ew
      exact ⟨_, rfl, h _ F H (Xt.refl f) (.fz (.int _))⟩
  · cases e
def oMax2 : List O → Option O
  | [.fz (.int i), .fz (.int j)] => some (.fz (.int (if j > i then j else i)))
  | _ => none
def oMin2 : List O → Option O
  | [.fz (.int i), .fz (.int j)] => some (.fz (.int (if j < i then j else i)))
  | _ => none
theorem cb_max2 {k : Kc} : CbV k (fun xs H Q => ∃ i j, xs = [.int i, .int j] ∧ Q (.int (if j > i then j else i)) H) oMax2 := by
  intro F H S xs os o Q f off th ws e h
  unfold oMax2 at e
  split at e
  · have e' := Option.some.inj e
    subst e'
    cases ws with
    | cons w ws =>
      cases ws with
      | cons w2 ws =>
        cases ws
        have ew := w.int
        have ew2 := w2.int
        subst ew ew2
        exact ⟨_, _, rfl, h _ F H (Xt.refl f) (.fz (.int _))⟩
  · cases e
theorem cb_min2 {k : Kc} : CbV k (fun xs H Q => ∃ i j, xs = [.int i, .int j] ∧ Q (.int (if j < i then j else i)) H) oMin2 := by
  intro F H S xs os o Q f off th ws e h
  unfold oMin2 at e
  split at e
  · have e' := Option.some.inj e
    subst e'
    cases ws with
    | cons w ws =>
      cases ws with
      | cons w2 ws =>
        cases ws
        have ew := w.int
        have ew2 := w2.int
        subst ew ew2
        exact ⟨_, _, rfl, h _ F H (Xt.refl f) (.fz (.int _))⟩
  · cases e
def oInt : List O → Option O
  | [.fz (.int i)] => some (.fz (.int i))
  | [.fz (.bool b)] => some (.fz (.int (if b then 1 else 0)))
  | [.fz (.str a)] => match PySem.intText? a with
    | some n => if a.length ≤ 640 then some (.fz (.int n)) else none
    | none => none
  | _ => none
def rIntU : List V → Hp → VK → Prop := fun xs H Q => ((∃ i, xs = [.int i] ∧ Q (.int i) H) ∨ ∃ k, xs = [.bl k] ∧ Q (.int (if k then 1 else 0)) H) ∨ ∃ a n, xs = [.str a] ∧ PySem.intText? a = some n ∧ a.length ≤ 640 ∧ Q (.int n) H
theorem call_intU : CallR X (.type "int") rIntU := CallR.or call_int1 call_int_str
theorem cb_int {k : Kc} : CbV k rIntU oInt := by
  intro F H S xs os o Q f off th ws e h
  unfold oInt at e
  split at e
  · have e' := Option.some.inj e
    subst e'
    cases ws with
    | cons w ws =>
      cases ws
      have ew := w.int
      subst ew
      exact .inl (.inl ⟨_, rfl, h _ F H (Xt.refl f) (.fz (.int _))⟩)
  · have e' := Option.some.inj e
    subst e'
    cases ws with
    | cons w ws =>
      cases ws
      have ew := w.bl
      subst ew
      exact .inl (.inr ⟨_, rfl, h _ F H (Xt.refl f) (.fz (.int _))⟩)
  · split at e
    · rename_i n en
      split at e
      · rename_i hz
        have e' := Option.some.inj e
        subst e'
        cases ws with
        | cons w ws =>
          cases ws
          have ew := w.str
          subst ew
          exact .inr ⟨_, n, rfl, en, hz, h _ F H (Xt.refl f) (.fz (.int _))⟩
      · cases e
    · cases e
  · cases e
/-! ### str(x) -/
def rStrU (K : Frag) : List V → Hp → VK → Prop := fun xs H Q => (∃ i, xs = [.int i] ∧ i.natAbs.log2 < 1920 ∧ Q (.str (toString i)) H) ∨ ((∃ a, xs = [.str a] ∧ Q (.str a) H) ∨
  ∃ a d, xs = [.ref a] ∧ Dp K H (.ref a) d ∧ SeqAt.shaped d = true ∧ d.showable = true ∧ d.hasDict = false ∧ d.shown.length ≤ sizeLine ∧ Q (.str d.shown) H)
theorem call_strU (hg : X.A.guards = some []) (hu : X.A.units + 68 < cLine) : CallR X (.type "str") (rStrU X.K) := by
  refine CallR.or call_str_int (CallR.or SkE.call_str_str ?_)
  intro pins s σ H xs us Q I r h
  obtain ⟨a, d, rfl, hd, sh, sw, nd, hz, q⟩ := h
  obtain ⟨u, rfl, ru⟩ := vals1 r
  obtain ⟨as, r1⟩ := Dp.reads I d _ u hd ru
  cases (show u = Value.ref a from ru)
  have hdp := SeqAt.depth_of_shaped sh
  refine str_of_reads r1 sw (fun z => by rw [nd] at z; cases z) hg (by omega) (fun b o e => e) (fun h' u' tk kp => ?_) hz
  exact ⟨.str d.shown, H, I.kept kp, ⟨u', rfl⟩, q⟩
def isSeqD : PD → Bool
  | .list _ => true
  | .tuple _ => true
  | _ => false
def oStr : List O → Option O
  | [.fz (.int i)] => if i.natAbs < 2 ^ 1900 then some (.fz (.str (toString i))) else none
  | [.fz (.str x)] => some (.fz (.str x))
  | [x] => match toPD x with
    | some d => if isSeqD d && SeqAt.shaped d && d.showable && !d.hasDict && decide (d.shown.length ≤ sizeLine) then some (.fz (.str d.shown)) else none
    | none => none
  | _ => none
theorem cb_str {k : Kc} : CbV k (rStrU k.K) oStr := by
  intro F H S xs os o Q f off th ws e h
  unfold oStr at e
  split at e
  · split at e
    · rename_i hz
      have e' := Option.some.inj e
      subst e'
      cases ws with
      | cons w ws =>
        cases ws
        have ew := w.int
        subst ew
        exact .inl ⟨_, rfl, PySem.Spec.log2_small (Nat.lt_of_lt_of_le hz (Nat.pow_le_pow_right (by decide) (by decide))), h _ F H (Xt.refl f) (.fz (.str _))⟩
    · cases e
  · have e' := Option.some.inj e
    subst e'
    cases ws with
    | cons w ws =>
      cases ws
      have ew := w.str
      subst ew
      exact .inr (.inl ⟨_, rfl, h _ F H (Xt.refl f) (.fz (.str _))⟩)
  · split at e
    · rename_i d ed
      split at e
      · rename_i hz
        simp only [Bool.and_eq_true, decide_eq_true_eq, Bool.not_eq_true'] at hz
        obtain ⟨⟨⟨⟨z1, z2⟩, z3⟩, z4⟩, z5⟩ := hz
        have e' := Option.some.inj e
        subst e'
        cases ws with
        | cons w ws =>
          cases ws
          have p := (w.at_ f ed).dp (SeqAt.canLay_of_shaped z2)
          cases p with
          | lst g1 g2 => exact .inr (.inr ⟨_, _, rfl, .lst g1 g2, z2, z3, z4, z5, h _ F H (Xt.refl f) (.fz (.str _))⟩)
          | tup g1 g2 => exact .inr (.inr ⟨_, _, rfl, .tup g1 g2, z2, z3, z4, z5, h _ F H (Xt.refl f) (.fz (.str _))⟩)
          | _ => cases z1
      · cases e
    · cases e
  · cases e
end
end FM
namespace FM
open PySem L2 PyProof.Rows
section
variable {X : Cx}
/-! ### displays -/
def fzs : List O → Option (List PD)
  | [] => some []
  | .fz d :: r => (fzs r).map fun z => d :: z
  | _ :: _ => none
theorem Vws.fzs {k : Kc} {F H : Hp} {S : List Addr} : ∀ {vs : List V} {os : List O} {ds : List PD}, Vws k F H S vs os → FM.fzs os = some ds → Reps k.K F vs ds
  | _, _, _, .nil, e => by
    have e' := Option.some.inj e
    subst e'
    exact .nil
  | _, _, _, .cons (o := o) (os := os) w ws, e => by
    cases o with
    | fz d =>
      obtain ⟨z, e1, e2⟩ := Option.map_eq_some_iff.mp (show (FM.fzs os).map (fun z => d :: z) = some _ from e)
      subst e2
      exact .cons w.rep (Vws.fzs ws e1)
    | _ => cases e
def qTup (r : List O → Option (List O)) : QE := fun ρ => match r ρ with
  | none => none
  | some os => match fzs os with
    | some ds => if ds.length ≤ sizeLine then some (.fz (.tuple ds)) else none
    | none => none
def qLst (r : List O → Option (List O)) : QE := fun ρ => match r ρ with
  | none => none
  | some os => match fzs os with
    | some ds => if ds.length ≤ sizeLine then some (.lst ds) else none
    | none => none
theorem tev_tup {k : Kc} {ta : TA} {qs : List O → Option (List O)} (ha : TAv k ta qs) : TEv k (tTup ta) (qTup qs) := by
  intro F H σ ρ S o Q q e h
  unfold qTup at e
  cases e1 : qs ρ with
  | none => rw [e1] at e; cases e
  | some os =>
    rw [e1] at e
    cases e2 : fzs os with
    | none => simp only [e2] at e; cases e
    | some ds =>
      simp only [e2] at e
      split at e
      · rename_i hz
        have e' := Option.some.inj e
        subst e'
        refine ha F H σ ρ S os _ q e1 fun vs F1 H1 x1 w1 => ?_
        have r := w1.fzs e2
        exact ⟨by rw [r.length]; exact hz, new_tuple x1.fle r fun v F' H' x w => h v F' H' (x1.trans x) w⟩
      · cases e
theorem ten_lst {k : Kc} {ta : TA} {qs : List O → Option (List O)} (ha : TAv k ta qs) : TEn k (tLst ta) (qLst qs) := by
  intro F H σ ρ S o Q q e h
  unfold qLst at e
  cases e1 : qs ρ with
  | none => rw [e1] at e; cases e
  | some os =>
    rw [e1] at e
    cases e2 : fzs os with
    | none => simp only [e2] at e; cases e
    | some ds =>
      simp only [e2] at e
      split at e
      · rename_i hz
        have e' := Option.some.inj e
        subst e'
        refine ha F H σ ρ S os _ q e1 fun vs F1 H1 x1 w1 => ?_
        have r := w1.fzs e2
        exact ⟨by rw [r.length]; exact hz, own_list x1.fle r fun v F' H' T x w fr => h v F' H' T (x1.trans x) w ⟨fr.nd, fun a m => none_back x1.ex (fr.new a m), fr.off, fr.nofz⟩⟩
      · cases e
/-! ### isinstance -/
def tyS : PD → String
  | .none => "NoneType"
  | .bool _ => "bool"
  | .int _ => "int"
  | .str _ => "str"
  | .list _ => "list"
  | .tuple _ => "tuple"
  | .dict _ => "dict"
def isTy (n : String) (d : PD) : Option Bool := kitB (tyS d) n
theorem kit_rep {K : Frag} {pins : List (Addr × Obj)} {σ : L2.St} {H : Hp} {s : Shared} {x : V} {u : Value} {d : PD} (hK : X.K = K) (I : Inv X pins σ H s) (rx : RelV x u) (r : Rep K H x d) :
    ∃ P : Heap → Prop, PySem.W.KitX X.K u (.type (tyS d)) P ∧ P s.heap ∧ u ≠ .builtin "__main__.__loader__#opaque" := by
  subst hK
  cases r with
  | non => exact kit_of I rx (.base .non)
  | bl b => exact kit_of I rx (.base (.bl b))
  | int i => exact kit_of I rx (.base (.int i))
  | str y => exact kit_of I rx (.base (.str y))
  | lst h _ =>
    rcases h with (h | ⟨o, h⟩) | ⟨o, its, n, hk, hc, _⟩
    · exact kit_of I rx (.base (.lst h))
    · exact kit_of I rx (.base (.frz h))
    · exact kit_of I rx (.kList hk hc)
  | tup h _ => exact kit_of I rx (.base (.tup h))
  | dic h _ e =>
    subst e
    rcases h with h | ⟨o, h⟩
    · exact kit_of I rx (.base (.dK h))
    · exact kit_of I rx (.fDict h)
  | @dit a kvs ds _ h _ e =>
    subst e
    rcases h with h | ⟨ob, h⟩
    · exact kit_of I rx (.base (.dT h))
    · cases (show u = Value.ref a from rx)
      obtain ⟨_, _, _, xs, _, o, es, ep, h1, h2, _⟩ := (show ObjOk X.prog X.w H s.heap a (.frz ob (.dT kvs)) from I.hok a _ h)
      exact ⟨_, PySem.W.kitx_dict, ⟨o, h1, h2.1⟩, fun z => nomatch z⟩
def rIsi1 (K : Frag) : List V → Hp → VK → Prop := fun xs H Q => ∃ x n d b, xs = [x, .ty n] ∧ Rep K H x d ∧ kitB (tyS d) n = some b ∧ Q (.bl b) H
theorem call_isi1 : CallR X (.builtin "isinstance") (rIsi1 X.K) := by
  intro pins s σ H xs us Q I r h
  obtain ⟨x, n, d, b, rfl, rx, e, q⟩ := h
  obtain ⟨u1, u2, rfl, r1, r2⟩ := vals2 r
  cases (show u2 = Value.type n from r2)
  obtain ⟨P, Z, p, hx⟩ := kit_rep rfl I r1 rx
  exact PySem.W.kia_one Z I.kIn p (kit_ty e) hx fun tk => ⟨.bl b, H, I.tok tk, rfl, q⟩
def rIsi2 (K : Frag) : List V → Hp → VK → Prop := fun xs H Q => ∃ x tp n m d b c, xs = [x, .ref tp] ∧ H tp = some (.tup [.ty n, .ty m]) ∧ Rep K H x d ∧ kitB (tyS d) n = some b ∧ kitB (tyS d) m = some c ∧ Q (.bl (b || c)) H
theorem call_isi2 : CallR X (.builtin "isinstance") (rIsi2 X.K) := by
  intro pins s σ H xs us Q I r h
  obtain ⟨x, tp, n, m, d, b, c, rfl, hT, rx, e, e2, q⟩ := h
  obtain ⟨u1, u2, rfl, r1, r2⟩ := vals2 r
  cases (show u2 = Value.ref tp from r2)
  obtain ⟨P, Z, p, hx⟩ := kit_rep rfl I r1 rx
  obtain ⟨_, its, rv, o, h1, h2, n', h3⟩ := (show ObjOk X.prog X.w H s.heap tp (.tup [.ty n, .ty m]) from I.hok tp _ hT)
  have e3 : its = [Value.type n, Value.type m] := by
    cases rv with
    | cons a t =>
      cases t with
      | cons b t =>
        cases t
        cases a
        cases b
        rfl
  subst e3
  obtain ⟨oc, od, dt, sl⟩ := o
  simp only at h2 h3
  subst h2 h3
  refine PySem.W.kia_tup Z I.kIn p h1 (kitAny_cons (r := b || c) (kit_ty e) (fun hb => ?_) fun hb => by rw [hb]; rfl) hx fun tk => ⟨.bl _, H, I.tok tk, rfl, q⟩
  rw [hb]
  refine kitAny_cons (kit_ty e2) (fun hc => ?_) fun hc => by rw [hc]; rfl
  rw [hc]
  exact kitAny_nil
def qIsi (n : String) (a : QE) : QE := fun ρ => match a ρ with
  | none => none
  | some x => match toPD x with
    | none => none
    | some d => (isTy n d).map fun b => .fz (.bool b)
def qIsi2 (n m : String) (a : QE) : QE := fun ρ => match a ρ with
  | none => none
  | some x => match toPD x with
    | none => none
    | some d => match isTy n d, isTy m d with
      | some b, some c => some (.fz (.bool (b || c)))
      | _, _ => none
theorem tev_isi {k : Kc} {te : TE} {qa : QE} {n : String} (ha : TEv k te qa) : TEv k (tCB (rIsi1 k.K) (tCons te (tCons (tC (.ty n)) tNil))) (qIsi n qa) := by
  intro F H σ ρ S o Q q e h
  unfold qIsi at e
  cases e1 : qa ρ with
  | none => rw [e1] at e; cases e
  | some x =>
    rw [e1] at e
    cases e2 : toPD x with
    | none => simp only [e2] at e; cases e
    | some d =>
      simp only [e2] at e
      obtain ⟨b, e3, e4⟩ := Option.map_eq_some_iff.mp e
      subst e4
      refine ha F H σ ρ S x _ q e1 fun v F1 H1 x1 w1 => ?_
      exact ⟨v, n, d, b, rfl, w1.at_ x1.fle e2, e3, h _ F1 H1 x1 (.fz (.bl _))⟩
theorem tev_isi2 {k : Kc} {te : TE} {qa : QE} {n m : String} (ha : TEv k te qa) : TEv k (tCB (rIsi2 k.K) (tCons te (tCons (tTup (tCons (tC (.ty n)) (tCons (tC (.ty m)) tNil))) tNil))) (qIsi2 n m qa) := by
  intro F H σ ρ S o Q q e h
  unfold qIsi2 at e
  cases e1 : qa ρ with
  | none => rw [e1] at e; cases e
  | some x =>
    rw [e1] at e
    cases e2 : toPD x with
    | none => simp only [e2] at e; cases e
    | some d =>
      simp only [e2] at e
      split at e
      · rename_i b c e3 e4
        have e' := Option.some.inj e
        subst e'
        refine ha F H σ ρ S x _ q e1 fun v F1 H1 x1 w1 => ?_
        refine ⟨by show 2 ≤ sizeLine; decide, fun p hp => ?_⟩
        have x2 := Xt.new (o := .tup [.ty n, .ty m]) x1.fle hp
        exact ⟨v, p, n, m, d, b, c, rfl, upd_same, (w1.xt x2).at_ x2.fle e2, e3, e4, h _ _ _ (x1.trans x2) (.fz (.bl _))⟩
      · cases e
/-! ### what is walked -/
/-- the items, each new one frozen: P says where it holds -/
structure WalkD (k : Kc) (P : Hp → Hp → Prop) (J : It) (ds : List PD) : Prop where
  goes : ∀ i F H, i < ds.length → P F H → FLe F H → J.go i H
  stops : ∀ F H, P F H → FLe F H → J.stop ds.length H
  yields : ∀ i F H x H' (hi : i < ds.length), P F H → FLe F H → J.yld i H x H' → ∃ F', Xt F H F' H' ∧ Rep k.K F' x ds[i]
abbrev QI := List O → Option (List PD)
/-- as long as nothing is changed -/
def TIv (k : Kc) (wi : TI) (q : QI) : Prop := ∀ (F H : Hp) (σ : L2.St) (ρ : List O) (S : List Addr) (ds : List PD) (R : It → Hp → Prop), Qs k F H σ ρ S → q ρ = some ds →
  (∀ J F' H', Xt F H F' H' → WalkD k (fun F2 H2 => Xt F' H' F2 H2) J ds → R J H') → wi σ H R
/-- as long as what is frozen stands -/
def TIf (k : Kc) (wi : TI) (q : QI) : Prop := ∀ (F H : Hp) (σ : L2.St) (ρ : List O) (S : List Addr) (ds : List PD) (R : It → Hp → Prop), Qs k F H σ ρ S → q ρ = some ds →
  (∀ J F' H', Xt F H F' H' → WalkD k (fun F2 _ => Same F' F2) J ds → R J H') → wi σ H R
theorem WalkD.mono {k : Kc} {P P' : Hp → Hp → Prop} {J : It} {ds : List PD} (w : WalkD k P J ds) (h : ∀ F H, P' F H → P F H) : WalkD k P' J ds :=
  ⟨fun i F H hi p f => w.goes i F H hi (h F H p) f, fun F H p f => w.stops F H (h F H p) f, fun i F H x H' hi p f y => w.yields i F H x H' hi (h F H p) f y⟩
theorem TIf.v {k : Kc} {wi : TI} {q : QI} (h : TIf k wi q) : TIv k wi q := fun F H σ ρ S ds R qs e g => h F H σ ρ S ds R qs e fun J F' H' x w => g J F' H' x (w.mono fun _ _ z => z.sub)
/-- over what P holds: SqL, SqT along P -/
theorem walkD_list {k : Kc} {P : Hp → Hp → Prop} {a : Addr} {vs : List V} {ds : List PD} (hs : ∀ F H, P F H → FLe F H → SqL k.K H a vs ∧ Reps k.K F vs ds) (hl : vs.length = ds.length) : WalkD k P (Itl k.K a) ds :=
  ⟨fun i F H hi p f => walk_list.goes i H (by omega) (hs F H p f).1, fun F H p f => by rw [← hl]; exact walk_list.stops H (hs F H p f).1, fun i F H x H' hi p f y => by
    obtain ⟨e1, e2⟩ := walk_list.yields i H x H' (by omega) (hs F H p f).1 y
    subst e1
    obtain ⟨v, e3, r⟩ := (hs F _ p f).2.get (i := i) (d := ds[i]) (by simp [hi])
    rw [e2] at e3
    have e3 := Option.some.inj e3
    subst e3
    exact ⟨F, Xt.refl f, r⟩⟩
theorem walkD_tup {k : Kc} {P : Hp → Hp → Prop} {a : Addr} {vs : List V} {ds : List PD} (hs : ∀ F H, P F H → FLe F H → SqT k.K H a vs ∧ Reps k.K F vs ds) (hl : vs.length = ds.length) : WalkD k P (Itt k.K a) ds :=
  ⟨fun i F H hi p f => walk_tup.goes i H (by omega) (hs F H p f).1, fun F H p f => by rw [← hl]; exact walk_tup.stops H (hs F H p f).1, fun i F H x H' hi p f y => by
    obtain ⟨e1, e2⟩ := walk_tup.yields i H x H' (by omega) (hs F H p f).1 y
    subst e1
    obtain ⟨v, e3, r⟩ := (hs F _ p f).2.get (i := i) (d := ds[i]) (by simp [hi])
    rw [e2] at e3
    have e3 := Option.some.inj e3
    subst e3
    exact ⟨F, Xt.refl f, r⟩⟩
/-- a frozen list's standing -/
def qItL (a : QE) : QI := fun ρ => match a ρ with
  | none => none
  | some x => seqL x
def qItT (a : QE) : QI := fun ρ => match a ρ with
  | none => none
  | some x => seqR x
theorem tiv_list {k : Kc} {te : TE} {qa : QE} (ha : TEv k te qa) : TIv k (iList k.K te) (qItL qa) := by
  intro F H σ ρ S ds R q e g
  unfold qItL at e
  cases e1 : qa ρ with
  | none => rw [e1] at e; cases e
  | some x =>
    rw [e1] at e
    refine ha F H σ ρ S x _ q e1 fun v F1 H1 x1 w1 => ?_
    obtain ⟨a, vs, rfl, g1, g2⟩ := w1.seqL x1.fle e
    exact ⟨a, rfl, ⟨vs, g1⟩, g _ F1 H1 x1 (walkD_list (fun F2 H2 p f => ⟨sqL_sub p.ex g1, g2.sub p.sub⟩) g2.length)⟩
theorem tiv_tup {k : Kc} {te : TE} {qa : QE} (ha : TEv k te qa) : TIv k (iTup k.K te) (qItT qa) := by
  intro F H σ ρ S ds R q e g
  unfold qItT at e
  cases e1 : qa ρ with
  | none => rw [e1] at e; cases e
  | some x =>
    rw [e1] at e
    refine ha F H σ ρ S x _ q e1 fun v F1 H1 x1 w1 => ?_
    obtain ⟨a, vs, rfl, g1, g2⟩ := w1.seqR x1.fle e
    exact ⟨a, rfl, ⟨vs, g1⟩, g _ F1 H1 x1 (walkD_tup (fun F2 H2 p f => ⟨sqT_sub p.ex g1, g2.sub p.sub⟩) g2.length)⟩
/-- frozen ones alone -/
def fzL : O → Option (List PD)
  | .fz (.list ds) => some ds
  | _ => none
theorem Vw.fzL {k : Kc} {F H : Hp} {S : List Addr} {v : V} {o : O} {ds : List PD} (h : Vw k F H S v o) (e : FM.fzL o = some ds) : ∃ a vs, v = .ref a ∧ SqL k.K F a vs ∧ Reps k.K F vs ds := by
  unfold FM.fzL at e
  split at e
  · have e' := Option.some.inj e
    subst e'
    cases h.rep with
    | lst h1 h2 => exact ⟨_, _, rfl, h1, h2⟩
    | dic _ _ e => cases e
    | dit _ _ e => cases e
  · cases e
theorem Vw.fzR {k : Kc} {F H : Hp} {S : List Addr} {v : V} {o : O} {ds : List PD} (h : Vw k F H S v o) (e : FM.seqR o = some ds) : ∃ a vs, v = .ref a ∧ (∀ G, Same F G → SqT k.K G a vs) ∧ Reps k.K F vs ds := by
  obtain ⟨T, _, q⟩ := h
  cases q with
  | fz r =>
    cases r with
    | tup h1 h2 =>
      have e' := Option.some.inj e
      subst e'
      exact ⟨_, _, rfl, fun G s => SqT.of (s _ _ h1), h2⟩
    | dic h1 h2 h3 => subst h3; cases e
    | dit h1 h2 h3 => subst h3; cases e
    | _ => cases e
  | ktp h1 h2 =>
    have e' := Option.some.inj e
    subst e'
    exact ⟨_, _, rfl, fun G _ => h1 G, h2⟩
  | _ => cases e
def qIfL (a : QE) : QI := fun ρ => match a ρ with
  | none => none
  | some x => fzL x
theorem tif_list {k : Kc} {te : TE} {qa : QE} (ha : TEv k te qa) : TIf k (iList k.K te) (qIfL qa) := by
  intro F H σ ρ S ds R q e g
  unfold qIfL at e
  cases e1 : qa ρ with
  | none => rw [e1] at e; cases e
  | some x =>
    rw [e1] at e
    refine ha F H σ ρ S x _ q e1 fun v F1 H1 x1 w1 => ?_
    obtain ⟨a, vs, rfl, g1, g2⟩ := w1.fzL e
    exact ⟨a, rfl, ⟨vs, sqL_le x1.fle g1⟩, g _ F1 H1 x1 (walkD_list (fun F2 H2 p f => ⟨sqL_le f (sqL_sub p g1), g2.sub p⟩) g2.length)⟩
theorem tif_tup {k : Kc} {te : TE} {qa : QE} (ha : TEv k te qa) : TIf k (iTup k.K te) (qItT qa) := by
  intro F H σ ρ S ds R q e g
  unfold qItT at e
  cases e1 : qa ρ with
  | none => rw [e1] at e; cases e
  | some x =>
    rw [e1] at e
    refine ha F H σ ρ S x _ q e1 fun v F1 H1 x1 w1 => ?_
    obtain ⟨a, vs, rfl, g1, g2⟩ := w1.fzR e
    exact ⟨a, rfl, ⟨vs, sqT_le x1.fle (g1 F1 (Same.refl _))⟩, g _ F1 H1 x1 (walkD_tup (fun F2 H2 p f => ⟨sqT_le f (g1 F2 p), g2.sub p⟩) g2.length)⟩
/-- ranges -/
def rngD (lo : Int) (n : Nat) : List PD := (List.range n).map fun i => PyData.int (lo + (i : Nat))
theorem walkD_range {k : Kc} {P : Hp → Hp → Prop} {lo : Int} {n : Nat} : WalkD k P (Itr lo n) (rngD lo n) := by
  have hl : (rngD lo n).length = n := by unfold rngD; rw [List.length_map, List.length_range]
  refine ⟨fun i F H hi _ _ => ?_, fun F H _ _ => ?_, fun i F H x H' hi p f y => ?_⟩
  · rw [hl] at hi; exact hi
  · rw [hl]; exact Nat.le_refl n
  · obtain ⟨e1, e2⟩ := y
    subst e1 e2
    refine ⟨F, Xt.refl f, ?_⟩
    have : (rngD lo n)[i] = PyData.int (lo + (i : Nat)) := by simp [rngD]
    rw [this]
    exact .int _
noncomputable def big62 (i : Int) : Bool := @decide (-(2 ^ 62) ≤ i ∧ i < 2 ^ 62) (Classical.propDecidable _)
theorem big62_ok {i : Int} (h : big62 i = true) : -(2 ^ 62) ≤ i ∧ i < 2 ^ 62 := @of_decide_eq_true _ (Classical.propDecidable _) h
theorem big62_of {i : Int} (h1 : -(2 ^ 62) ≤ i) (h2 : i < 2 ^ 62) : big62 i = true := @decide_eq_true _ (Classical.propDecidable _) ⟨h1, h2⟩
noncomputable def qRng1 (r : List O → Option (List O)) : QI := fun ρ => match r ρ with
  | some [.fz (.int j)] => if big62 j then some (rngD 0 j.toNat) else none
  | _ => none
noncomputable def qRng2 (r : List O → Option (List O)) : QI := fun ρ => match r ρ with
  | some [.fz (.int i), .fz (.int j)] => if big62 i && big62 j then some (rngD i (j - i).toNat) else none
  | _ => none
theorem tif_rng1 {k : Kc} {ta : TA} {qs : List O → Option (List O)} (ha : TAv k ta qs) : TIf k (iRng1 ta) (qRng1 qs) := by
  intro F H σ ρ S ds R q e g
  unfold qRng1 at e
  split at e
  · rename_i j e1
    split at e
    · rename_i hz
      have e' := Option.some.inj e
      subst e'
      refine ha F H σ ρ S _ _ q e1 fun vs F1 H1 x1 w1 => ?_
      cases w1 with
      | cons w ws =>
        cases ws
        have ew := w.int
        subst ew
        have b := big62_ok hz
        exact ⟨j, rfl, b.1, b.2, g _ F1 H1 x1 walkD_range⟩
    · cases e
  · cases e
theorem tif_rng2 {k : Kc} {ta : TA} {qs : List O → Option (List O)} (ha : TAv k ta qs) : TIf k (iRng2 ta) (qRng2 qs) := by
  intro F H σ ρ S ds R q e g
  unfold qRng2 at e
  split at e
  · rename_i i j e1
    split at e
    · rename_i hz
      have hz := Bool.and_eq_true_iff.mp hz
      have e' := Option.some.inj e
      subst e'
      refine ha F H σ ρ S _ _ q e1 fun vs F1 H1 x1 w1 => ?_
      cases w1 with
      | cons w ws =>
        cases ws with
        | cons w2 ws =>
          cases ws
          have ew := w.int
          have ew2 := w2.int
          subst ew ew2
          have b := big62_ok hz.1
          have b2 := big62_ok hz.2
          exact ⟨i, j, rfl, ⟨b.1, b.2, b2.1, b2.2⟩, g _ F1 H1 x1 walkD_range⟩
    · cases e
  · cases e
/-! ### list(range(..)) -/
noncomputable def qLrg1 (a : QE) : QE := fun ρ => match a ρ with
  | some (.fz (.int n)) => if big62 n && decide (n.toNat ≤ 2 ^ 24) then some (.lst (rngD 0 n.toNat)) else none
  | _ => none
noncomputable def qLrg2 (a b : QE) : QE := fun ρ => match a ρ, b ρ with
  | some (.fz (.int m)), some (.fz (.int n)) => if big62 m && big62 n && decide ((n - m).toNat ≤ 2 ^ 24) then some (.lst (rngD m (n - m).toNat)) else none
  | _, _ => none
theorem reps_rg {K : Frag} {F : Hp} (a b : Int) : Reps K F (rgV a b) (rngD a (b - a).toNat) := by
  unfold rgV rngD
  generalize List.range (b - a).toNat = l
  induction l with
  | nil => exact .nil
  | cons x r ih => exact .cons (.int _) ih
theorem ten_lrg1 {k : Kc} {te : TE} {qa : QE} (ha : TEv k te qa) : TEn k (tLstRg (tRg1 te)) (qLrg1 qa) := by
  intro F H σ ρ S o Q q e h
  unfold qLrg1 at e
  split at e
  · rename_i n e1
    split at e
    · rename_i hz
      simp only [Bool.and_eq_true, decide_eq_true_eq] at hz
      have e' := Option.some.inj e
      subst e'
      refine ha F H σ ρ S _ _ q e1 fun v F1 H1 x1 w1 => ?_
      have b := big62_ok hz.1
      refine ⟨n, w1.int, ⟨by decide, by decide, b.1, b.2, by rw [Int.sub_zero]; exact hz.2⟩, ?_⟩
      have r := reps_rg (K := k.K) (F := F1) 0 n
      rw [Int.sub_zero] at r
      exact own_list x1.fle r fun v F' H' T x w fr => h v F' H' T (x1.trans x) w ⟨fr.nd, fun a m => none_back x1.ex (fr.new a m), fr.off, fr.nofz⟩
    · cases e
  · cases e
theorem ten_lrg2 {k : Kc} {ta tb : TE} {qa qb : QE} (ha : TEv k ta qa) (hb : TEv k tb qb) : TEn k (tLstRg (tRg2 ta tb)) (qLrg2 qa qb) := by
  intro F H σ ρ S o Q q e h
  unfold qLrg2 at e
  split at e
  · rename_i m n e1 e2
    split at e
    · rename_i hz
      simp only [Bool.and_eq_true, decide_eq_true_eq] at hz
      have e' := Option.some.inj e
      subst e'
      refine ha F H σ ρ S _ _ q e1 fun v F1 H1 x1 w1 => ?_
      refine hb F1 H1 σ ρ S _ _ (q.xt x1) e2 fun v2 F2 H2 x2 w2 => ?_
      have b := big62_ok hz.1.1
      have b2 := big62_ok hz.1.2
      refine ⟨m, n, w1.int, w2.int, ⟨b.1, b.2, b2.1, b2.2, hz.2⟩, ?_⟩
      exact own_list x2.fle (reps_rg (K := k.K) (F := F2) m n) fun v F' H' T x w fr => h v F' H' T ((x1.trans x2).trans x) w ⟨fr.nd, fun a m => none_back (x1.trans x2).ex (fr.new a m), fr.off, fr.nofz⟩
    · cases e
  · cases e
end
end FM
namespace FM
open PySem L2 PyProof.Rows
/-! ### slots that are stored -/
theorem Envs.setD {k : Kc} {F H : Hp} {v : Option V} : ∀ {σ : L2.St} {ρ : List O} {S : List Addr} (j : Nat), Envs k F H σ ρ S → ∃ S', S'.Sublist S ∧ Envs k F H (σ.set j v) (ρ.set j .dead) S'
  | _, _, _, _, .nil => ⟨[], .slnil, .nil⟩
  | _, _, _, 0, .dead r => ⟨_, .refl _, .dead r⟩
  | _, _, _, 0, .cons h r => ⟨_, List.sublist_append_right _ _, .dead r⟩
  | _, _, _, j + 1, .dead r => by
    obtain ⟨S', m, q⟩ := Envs.setD j r
    exact ⟨S', m, .dead q⟩
  | _, _, _, j + 1, .cons (S := S1) h r => by
    obtain ⟨S', m, q⟩ := Envs.setD j r
    exact ⟨S1 ++ S', List.Sublist.append (.refl _) m, .cons h q⟩
theorem Envs.setO {k : Kc} {F H : Hp} {v : V} {o : O} {T : List Addr} (w : Own k F H v o T) : ∀ {σ : L2.St} {ρ : List O} {S : List Addr} (j : Nat), Envs k F H σ ρ S → (∃ S', S'.Sublist S ∧ ∃ U, U.Perm (T ++ S') ∧ Envs k F H (σ.set j (some v)) (ρ.set j o) U) ∨ ∃ S', S'.Sublist S ∧ Envs k F H (σ.set j (some v)) (ρ.set j o) S'
  | _, _, _, _, .nil => .inr ⟨[], .slnil, .nil⟩
  | _, _, S, 0, .dead r => .inl ⟨S, .refl _, T ++ S, .refl _, .cons w r⟩
  | _, _, _, 0, .cons (T := S2) h r => .inl ⟨S2, List.sublist_append_right _ _, T ++ S2, .refl _, .cons w r⟩
  | _, _, _, j + 1, .dead r => by
    rcases Envs.setO w j r with ⟨S', m, U, p, q⟩ | ⟨S2, m, q⟩
    · exact .inl ⟨S', m, U, p, .dead q⟩
    · exact .inr ⟨S2, m, .dead q⟩
  | _, _, _, j + 1, .cons (S := S1) h r => by
    rcases Envs.setO w j r with ⟨S', m, U, p, q⟩ | ⟨S2, m, q⟩
    · refine .inl ⟨S1 ++ S', List.Sublist.append (.refl _) m, S1 ++ U, ?_, .cons h q⟩
      exact (List.Perm.append_left S1 p).trans (by
        rw [← List.append_assoc, ← List.append_assoc]
        exact List.Perm.append_right _ List.perm_append_comm)
    · exact .inr ⟨S1 ++ S2, List.Sublist.append (.refl _) m, .cons h q⟩
theorem Envs.setR {k : Kc} {F H : Hp} {v : V} {d : PD} (w : Rep k.K F v d) : ∀ {σ : L2.St} {ρ : List O} {S : List Addr} (j : Nat), Envs k F H σ ρ S → ∃ S', S'.Sublist S ∧ Envs k F H (σ.set j (some v)) (ρ.set j (.fz d)) S'
  | _, _, _, _, .nil => ⟨[], .slnil, .nil⟩
  | _, _, S, 0, .dead r => ⟨[] ++ S, .refl _, .cons (.fz w) r⟩
  | _, _, _, 0, .cons (T := S2) h r => ⟨[] ++ S2, List.sublist_append_right _ _, .cons (.fz w) r⟩
  | _, _, _, j + 1, .dead r => by
    obtain ⟨S', m, q⟩ := Envs.setR w j r
    exact ⟨S', m, .dead q⟩
  | _, _, _, j + 1, .cons (S := S1) h r => by
    obtain ⟨S', m, q⟩ := Envs.setR w j r
    exact ⟨S1 ++ S', List.Sublist.append (.refl _) m, .cons h q⟩
def wipeO (ρ : List O) : List Nat → List O
  | [] => ρ
  | v :: vs => (wipeO ρ vs).set v .dead
theorem Envs.wipe {k : Kc} {F H : Hp} {σ : L2.St} {ρ : List O} {S : List Addr} (h : Envs k F H σ ρ S) : ∀ vs : List Nat, ∃ S', (∀ a ∈ S', a ∈ S) ∧ Envs k F H (L2.wipe σ vs) (wipeO ρ vs) S'
  | [] => ⟨S, fun _ m => m, h⟩
  | v :: vs => by
    obtain ⟨S1, m1, h1⟩ := Envs.wipe h vs
    obtain ⟨S2, m2, h2⟩ := Envs.setD (v := none) v h1
    exact ⟨S2, fun a z => m1 a (m2.subset z), h2⟩
theorem wipe_set {σ : L2.St} {j : Nat} {x : Option V} : ∀ {vs : List Nat}, j ∈ vs → L2.wipe (σ.set j x) vs = L2.wipe σ vs
  | [], m => by cases m
  | v :: vs, m => by
    unfold L2.wipe
    by_cases e : j ∈ vs
    · rw [wipe_set e]
    · have ej : j = v := (List.mem_cons.mp m).resolve_right e
      subst ej
      have comm : ∀ vs : List Nat, j ∉ vs → L2.wipe (σ.set j x) vs = (L2.wipe σ vs).set j x := by
        intro vs
        induction vs with
        | nil => intro _; rfl
        | cons w ws ih =>
          intro hn
          have h1 : j ≠ w := fun z => hn (by rw [z]; exact List.mem_cons_self)
          have h2 : j ∉ ws := fun z => hn (List.mem_cons_of_mem _ z)
          unfold L2.wipe
          rw [ih h2, List.set_comm _ _ h1]
      rw [comm vs e, List.set_set]
theorem wipe_wipe {σ : L2.St} : ∀ (vs ws : List Nat), (∀ j ∈ vs, j ∈ ws) → L2.wipe (L2.wipe σ vs) ws = L2.wipe σ ws
  | [], _, _ => rfl
  | v :: vs, ws, m => by
    show L2.wipe ((L2.wipe σ vs).set v none) ws = _
    rw [wipe_set (m v List.mem_cons_self)]
    exact wipe_wipe vs ws fun j z => m j (List.mem_cons_of_mem _ z)

/-- two slot lists that agree but at J -/
structure Agr (J : List Nat) (σ σ' : L2.St) : Prop where
  len : σ'.length = σ.length
  at_ : ∀ i, i ∉ J → σ'[i]? = σ[i]?
theorem Agr.refl {J : List Nat} {σ : L2.St} : Agr J σ σ := ⟨rfl, fun _ _ => rfl⟩
theorem Agr.trans {J J' : List Nat} {σ σ1 σ2 : L2.St} (a : Agr J σ σ1) (b : Agr J' σ1 σ2) : Agr (J ++ J') σ σ2 :=
  ⟨b.len.trans a.len, fun i n => (b.at_ i fun m => n (List.mem_append_right _ m)).trans (a.at_ i fun m => n (List.mem_append_left _ m))⟩
theorem Agr.set {σ : L2.St} {j : Nat} {x : Option V} : Agr [j] σ (σ.set j x) := ⟨List.length_set, fun i n => by
  rw [List.getElem?_set_ne]
  intro e
  exact n (by rw [e]; exact List.mem_cons_self)⟩
theorem wipe_in {σ : L2.St} {i : Nat} : ∀ {vs : List Nat}, i ∈ vs → i < σ.length → (L2.wipe σ vs)[i]? = some none
  | [], m, _ => by cases m
  | v :: vs, m, h => by
    unfold L2.wipe
    by_cases e : v = i
    · subst e
      rw [List.getElem?_set_self (by rw [wipe_length]; exact h)]
    · rw [List.getElem?_set_ne e]
      exact wipe_in ((List.mem_cons.mp m).resolve_left fun z => e z.symm) h
theorem Agr.wipe {J vs : List Nat} {σ σ' : L2.St} (a : Agr J σ σ') (h : ∀ j ∈ J, j ∈ vs) : L2.wipe σ' vs = L2.wipe σ vs := by
  apply List.ext_getElem?
  intro i
  by_cases m : i ∈ vs
  · by_cases l : i < σ.length
    · rw [wipe_in m l, wipe_in m (by rw [a.len]; exact l)]
    · rw [List.getElem?_eq_none (by rw [wipe_length, a.len]; omega), List.getElem?_eq_none (by rw [wipe_length]; omega)]
  · rw [wipe_out m, wipe_out m]
    exact a.at_ i fun z => m (h i z)
/-! ### targets, quiet -/
abbrev QG := PD → List O → Option (List O)
def TGq (k : Kc) (g : TG) (f : QG) (J : List Nat) : Prop := ∀ (F H : Hp) (σ : L2.St) (ρ ρ' : List O) (S : List Addr) (v : V) (d : PD) (Q : L2.St → Hp → Prop), Qs k F H σ ρ S → Rep k.K F v d → f d ρ = some ρ' →
  (∀ σ' S', Qs k F H σ' ρ' S' → S'.Sublist S → Agr J σ σ' → Q σ' H) → g v σ H Q
def TGsq (k : Kc) (g : TGs) (f : List PD → List O → Option (List O)) (J : List Nat) : Prop := ∀ (F H : Hp) (σ : L2.St) (ρ ρ' : List O) (S : List Addr) (vs : List V) (ds : List PD) (Q : L2.St → Hp → Prop), Qs k F H σ ρ S → Reps k.K F vs ds → f ds ρ = some ρ' →
  (∀ σ' S', Qs k F H σ' ρ' S' → S'.Sublist S → Agr J σ σ' → Q σ' H) → g vs σ H Q
def fName (j : Nat) : QG := fun d ρ => some (ρ.set j (.fz d))
theorem tgq_name {k : Kc} {j : Nat} : TGq k (gName j) (fName j) [j] := by
  intro F H σ ρ ρ' S v d Q q r e h
  have e' := Option.some.inj e
  subst e'
  obtain ⟨S', m, w⟩ := q.env.setR r j
  exact h _ S' ⟨q.fle, w, fun a z => q.off a (m.subset z)⟩ m Agr.set
def fNil : List PD → List O → Option (List O) := fun ds ρ => match ds with
  | [] => some ρ
  | _ :: _ => none
def fCons (f : QG) (r : List PD → List O → Option (List O)) : List PD → List O → Option (List O) := fun ds ρ => match ds with
  | [] => none
  | d :: ds => match f d ρ with
    | none => none
    | some ρ' => r ds ρ'
def fTup (n : Nat) (f : List PD → List O → Option (List O)) : QG := fun d ρ => match d with
  | .tuple ds => if ds.length = n then f ds ρ else none
  | _ => none
theorem tgsq_nil {k : Kc} : TGsq k gNil fNil [] := by
  intro F H σ ρ ρ' S vs ds Q q r e h
  unfold fNil at e
  cases r with
  | nil =>
    have e' := Option.some.inj e
    subst e'
    exact ⟨rfl, h σ S q (.refl _) Agr.refl⟩
  | cons _ _ => cases e
theorem tgsq_cons {k : Kc} {g : TG} {gs : TGs} {f : QG} {fs : List PD → List O → Option (List O)} {J Js : List Nat} (h1 : TGq k g f J) (h2 : TGsq k gs fs Js) : TGsq k (gCons g gs) (fCons f fs) (J ++ Js) := by
  intro F H σ ρ ρ' S vs ds Q q r e h
  unfold fCons at e
  cases r with
  | nil => cases e
  | @cons v d vs ds rv rs =>
    simp only at e
    cases e1 : f d ρ with
    | none => rw [e1] at e; cases e
    | some ρ1 =>
      rw [e1] at e
      refine ⟨v, vs, rfl, h1 F H σ ρ ρ1 S v d _ q rv e1 fun σ1 S1 q1 m1 w1 => ?_⟩
      exact h2 F H σ1 ρ1 ρ' S1 vs ds Q q1 rs e fun σ2 S2 q2 m2 w2 => h σ2 S2 q2 (m2.trans m1) (w1.trans w2)
theorem tgq_tup {k : Kc} {gs : TGs} {fs : List PD → List O → Option (List O)} {J : List Nat} {n : Nat} (h1 : TGsq k gs fs J) : TGq k (gTup k.K n gs) (fTup n fs) J := by
  intro F H σ ρ ρ' S v d Q q r e h
  unfold fTup at e
  split at e
  · split at e
    · rename_i ds hn
      cases r with
      | tup a1 a2 => exact ⟨_, _, rfl, SqT.of (tup_le q.fle a1), by rw [a2.length]; exact hn, h1 F H σ ρ ρ' S _ ds Q q a2 e h⟩
      | dic _ _ e => cases e
      | dit _ _ e => cases e
    · cases e
  · cases e

/-! ### comprehensions of quiet items -/
def lcGo (f : QG) (c : List O → Option Bool) (e : QE) (ρ : List O) : List PD → Option (List PD)
  | [] => some []
  | x :: xs => match f x ρ with
    | none => none
    | some ρ1 => match c ρ1 with
      | none => none
      | some false => lcGo f c e ρ xs
      | some true => match e ρ1 with
        | some (.fz d) => (lcGo f c e ρ xs).map fun r => d :: r
        | _ => none
def qYes : List O → Option Bool := fun _ => some true
theorem ttv_yes {k : Kc} : TTv k tYes qYes := by
  intro F H σ ρ S b Q q e h
  have e' := Option.some.inj e
  subst e'
  exact h F H (Xt.refl q.fle)
def qLc (qi : QI) (f : QG) (c : List O → Option Bool) (e : QE) (vs : List Nat) : QE := fun ρ => match qi ρ with
  | none => none
  | some xs => if xs.length ≤ sizeLine then (lcGo f c e (wipeO ρ vs) xs).map .lst else none
theorem ten_lc {k : Kc} {wi : TI} {g : TG} {tt : TT} {te : TE} {vs : List Nat} {qi : QI} {f : QG} {c : List O → Option Bool} {qe : QE} {J : List Nat} (hi : TIv k wi qi) (hg : TGq k g f J) (hJ : ∀ j ∈ J, j ∈ vs) (ht : TTv k tt c) (he : TEv k te qe) :
    TEn k (tLc wi g tt te vs) (qLc qi f c qe vs) := by
  intro F H σ ρ S o Q q e h
  unfold qLc at e
  cases e1 : qi ρ with
  | none => rw [e1] at e; cases e
  | some xs =>
    rw [e1] at e
    simp only at e
    split at e
    · rename_i hz
      obtain ⟨ys, e2, e3⟩ := Option.map_eq_some_iff.mp e
      subst e3
      refine hi F H σ ρ S xs _ q e1 fun JJ F1 H1 x1 W => ?_
      have q1 := q.xt x1
      intro D hD
      have nD : ∀ {F2 H2 : Hp}, Xt F1 H1 F2 H2 → F2 D = none → Th H2 D → ∀ {F3 H3 : Hp}, Xt F2 H2 F3 H3 → F3 D = none := fun _ n t _ _ x => x.off n t
      have grow : ∀ {F2 H2 : Hp} (l : List V), Xt F1 H1 F2 H2 → F2 D = none → Xt F1 H1 F2 (upd H2 D (.lst l)) := fun {F2 H2} l x n => by
        refine ⟨fun a u z => ?_, x.sub, fun a u z => ?_, x.fresh⟩
        · rw [upd_ne (ne_of_none z hD)]; exact x.ex a u z
        · have ne : a ≠ D := fun w => by rw [w, n] at z; cases z
          rw [upd_ne ne]
          exact x.fle a u z
      let Pv : Nat → Hp → Prop := fun i H2 => ∃ F2 acc done rest, Xt F1 H1 F2 H2 ∧ F2 D = none ∧ H2 D = some (.lst acc) ∧ Reps k.K F2 acc done ∧ lcGo f c qe (wipeO ρ vs) (xs.drop i) = some rest ∧ done ++ rest = ys ∧ done.length ≤ i
      refine ⟨fun i m H2 => m = xs.length - i ∧ i ≤ xs.length ∧ Pv i H2, ⟨_, rfl, Nat.zero_le _, F1, [], [], ys, ?_, fle_none x1.fle hD, upd_same, .nil, ?_, rfl, Nat.le_refl _⟩, ?_⟩
      · exact grow [] (Xt.refl x1.fle) (fle_none x1.fle hD)
      · simpa using e2
      · rintro i m H2 ⟨rfl, hi2, F2, acc, done, rest, x2, n2, a2, r2, e4, e5, l2⟩
        by_cases hlt : i < xs.length
        · refine .inr ⟨W.goes i F2 H2 hlt x2 x2.fle, fun H3 => i + 1 ≤ xs.length ∧ Pv (i + 1) H3, fun H3 p3 => ⟨xs.length - (i + 1), by omega, rfl, p3⟩, fun x H3 y => ?_⟩
          obtain ⟨F3, x3, rx⟩ := W.yields i F2 H2 x H3 hlt x2 x2.fle y
          have x13 := x2.trans x3
          have q3 := (q1.xt x2).xt x3
          obtain ⟨S3, m3, w3⟩ := q3.env.wipe vs
          have qw : Qs k F3 H3 (L2.wipe σ vs) (wipeO ρ vs) S3 := ⟨x3.fle, w3, fun a z => q3.off a (m3 a z)⟩
          rw [List.drop_eq_getElem_cons hlt] at e4
          unfold lcGo at e4
          cases e6 : f xs[i] (wipeO ρ vs) with
          | none => rw [e6] at e4; cases e4
          | some ρ1 =>
            simp only [e6] at e4
            refine hg F3 H3 _ _ ρ1 S3 x xs[i] _ qw rx e6 fun σ4 S4 q4 m4 wp => ⟨by rw [wp.wipe hJ]; exact wipe_wipe vs vs fun _ z => z, ?_⟩
            cases e7 : c ρ1 with
            | none => rw [e7] at e4; cases e4
            | some b =>
              simp only [e7] at e4
              refine ht F3 H3 σ4 ρ1 S4 b _ q4 e7 fun F5 H5 x5 => ?_
              have aD3 : H3 D = some (.lst acc) := x3.ex _ _ a2
              have aD5 : H5 D = some (.lst acc) := x5.ex _ _ aD3
              have n3 : F3 D = none := x3.off n2 (rd_there (.inl a2))
              have n5 : F5 D = none := x5.off n3 (rd_there (.inl aD3))
              cases b with
              | false =>
                rw [if_neg (by decide)]
                exact ⟨hlt, F5, acc, done, rest, x13.trans x5, n5, aD5, (r2.sub x3.sub).sub x5.sub, e4, e5, by omega⟩
              | true =>
                rw [if_pos rfl]
                simp only at e4
                split at e4
                · rename_i d e8
                  obtain ⟨rest', e9, e10⟩ := Option.map_eq_some_iff.mp e4
                  refine he F5 H5 σ4 ρ1 S4 _ _ (q4.xt x5) e8 fun v F6 H6 x6 w6 => ?_
                  have aD6 : H6 D = some (.lst acc) := x6.ex _ _ aD5
                  have n6 : F6 D = none := x6.off n5 (rd_there (.inl aD5))
                  have racc := ((r2.sub x3.sub).sub x5.sub).sub x6.sub
                  refine ⟨acc, aD6, by rw [racc.length]; omega, hlt, F6, acc ++ [v], done ++ [d], rest', ?_, n6, upd_same, racc.append (.cons w6.rep .nil), e9, ?_, by rw [List.length_append]; simp; omega⟩
                  · exact grow _ ((x13.trans x5).trans x6) n6
                  · rw [← e5, ← e10]; simp
                · cases e4
        · have ei : i = xs.length := by omega
          subst ei
          rw [List.drop_length] at e4
          have e4' := Option.some.inj (show some [] = some rest from e4)
          subst e4'
          rw [List.append_nil] at e5
          subst e5
          refine .inl ⟨W.stops F2 H2 x2 x2.fle, ?_⟩
          refine h (.ref D) F2 H2 [D] (x1.trans x2) (.lst (.inl a2) r2) ⟨List.nodup_cons.mpr ⟨List.not_mem_nil, .nil⟩, (fun a z => ?_), (fun a z => ?_), (fun a z ob u z2 => ?_)⟩
          · rw [List.mem_singleton.mp z]; exact none_back x1.ex hD
          · rw [List.mem_singleton.mp z]; exact n2
          · rw [List.mem_singleton.mp z, a2] at z2; cases z2
    · cases e
end FM
namespace FM
open PySem L2 PyProof.Rows
/-! ### what is one's own, against the entry -/
structure Ent where
  F : Hp
  H : Hp
  S : List Addr
structure Fr (e : Ent) (F H : Hp) (S : List Addr) : Prop where
  fle : FLe F H
  nd : S.Nodup
  off : ∀ a ∈ S, F a = none
  there : ∀ a ∈ S, Th H a
  nofz : ∀ a ∈ S, ∀ o u, H a ≠ some (.frz o u)
  own : ∀ a ∈ S, a ∈ e.S ∨ e.H a = none
  f0 : Same e.F F
  fnew : ∀ a u, F a = some u → e.F a ≠ none ∨ a ∈ e.S ∨ e.H a = none ∨ (gnd u ∧ e.H a = some u)
  keep : ∀ a o, e.H a = some o → a ∉ e.S → H a = some o
  dom : ∀ a, e.H a ≠ none → H a ≠ none
theorem Th.ex {H H' : Hp} {a : Addr} (t : Th H a) (s : Same H H') : Th H' a := by
  cases q : H a with
  | none => exact absurd q t.1
  | some u =>
    have := s a u q
    refine ⟨by rw [this]; simp, fun w g z => ?_⟩
    rw [this] at z
    cases z
    exact t.2 _ g q
theorem Fr.mono {e : Ent} {F H : Hp} {S T : List Addr} (f : Fr e F H S) (nd : T.Nodup) (m : ∀ a ∈ T, a ∈ S) : Fr e F H T :=
  ⟨f.fle, nd, fun a z => f.off a (m a z), fun a z => f.there a (m a z), fun a z => f.nofz a (m a z), fun a z => f.own a (m a z), f.f0, f.fnew, f.keep, f.dom⟩
theorem Fr.perm {e : Ent} {F H : Hp} {S T : List Addr} (f : Fr e F H S) (p : T.Perm S) : Fr e F H T := f.mono (p.nodup_iff.mpr f.nd) fun a z => p.mem_iff.mp z
theorem Fr.sub {e : Ent} {F H : Hp} {S T : List Addr} (f : Fr e F H S) (p : T.Sublist S) : Fr e F H T := f.mono (p.nodup f.nd) fun a z => p.subset z
theorem Fr.xt {e : Ent} {F H F' H' : Hp} {S : List Addr} (f : Fr e F H S) (x : Xt F H F' H') : Fr e F' H' S where
  fle := x.fle
  nd := f.nd
  off := fun a m => x.off (f.off a m) (f.there a m)
  there := fun a m => (f.there a m).ex x.ex
  nofz := fun a m o u z => by
    cases q : H a with
    | none => exact (f.there a m).1 q
    | some w =>
      rw [x.ex a w q] at z
      cases z
      exact f.nofz a m o u q
  own := f.own
  f0 := f.f0.trans x.sub
  fnew := fun a u z => by
    rcases x.fresh a u z with q | q | ⟨g, q⟩
    · exact f.fnew a u q
    · refine .inr (.inr (.inl ?_))
      cases w : e.H a with
      | none => rfl
      | some y => exact absurd q (f.dom a (by rw [w]; simp))
    · cases w : e.H a with
      | none => exact .inr (.inr (.inl rfl))
      | some y =>
        by_cases m : a ∈ e.S
        · exact .inr (.inl m)
        · have := f.keep a y w m
          rw [q] at this
          cases this
          exact .inr (.inr (.inr ⟨g, rfl⟩))
  keep := fun a o z n => x.ex a o (f.keep a o z n)
  dom := fun a n => by
    cases q : H a with
    | none => exact absurd q (f.dom a n)
    | some u => rw [x.ex a u q]; simp
theorem Fr.fresh {e : Ent} {F H F' H' : Hp} {S T : List Addr} (f : Fr e F H S) (x : Xt F H F' H') (t : Fresh F' H H' T) (th : ∀ a ∈ T, Th H' a) : Fr e F' H' (T ++ S) :=
  have g := f.xt x
  { g with
    nd := List.nodup_append.mpr ⟨t.nd, g.nd, fun a h1 b h2 z => (f.there b h2).1 (by rw [← z]; exact t.new a h1)⟩
    off := fun a m => (List.mem_append.mp m).elim (t.off a) (g.off a)
    there := fun a m => (List.mem_append.mp m).elim (th a) (g.there a)
    nofz := fun a m => (List.mem_append.mp m).elim (t.nofz a) (g.nofz a)
    own := fun a m => (List.mem_append.mp m).elim (fun z => .inr (by
      cases w : e.H a with
      | none => rfl
      | some y => exact absurd (t.new a z) (f.dom a (by rw [w]; simp)))) (g.own a) }
theorem Fr.freeze {e : Ent} {F H : Hp} {S T : List Addr} (f : Fr e F H (T ++ S)) : Fr e (over F H T) H S where
  fle := over_le f.fle
  nd := (List.nodup_append.mp f.nd).2.1
  off := fun a m => by
    have n : a ∉ T := fun z => (List.nodup_append.mp f.nd).2.2 a z a m rfl
    rw [over_out n]
    exact f.off a (List.mem_append_right _ m)
  there := fun a m => f.there a (List.mem_append_right _ m)
  nofz := fun a m => f.nofz a (List.mem_append_right _ m)
  own := fun a m => f.own a (List.mem_append_right _ m)
  f0 := f.f0.trans (over_sub fun a m => f.off a (List.mem_append_left _ m))
  fnew := fun a u z => by
    rcases over_fresh z with q | q
    · exact f.fnew a u q
    · rcases f.own a (List.mem_append_left _ q) with w | w
      · exact .inr (.inl w)
      · exact .inr (.inr (.inl w))
  keep := f.keep
  dom := f.dom
/-- an owned object changes -/
theorem Fr.write {e : Ent} {F H : Hp} {S : List Addr} {a : Addr} {o : HO} (f : Fr e F H S) (m : a ∈ S) (hn : ∀ ob u, o ≠ .frz ob u) (hg : ¬ gnd o := by rintro ⟨z, e⟩; cases e) : Fr e F (upd H a o) S where
  fle := fun b u z => by
    have ne : b ≠ a := fun w => by rw [w, f.off a m] at z; cases z
    rw [upd_ne ne]
    exact f.fle b u z
  nd := f.nd
  off := f.off
  there := fun b z => by
    by_cases w : b = a
    · rw [w]
      refine ⟨by rw [upd_same]; simp, fun w g z => ?_⟩
      rw [upd_same] at z
      cases z
      exact hg g
    · refine ⟨by rw [upd_ne w]; exact (f.there b z).1, fun w2 g z2 => ?_⟩
      rw [upd_ne w] at z2
      exact (f.there b z).2 w2 g z2
  nofz := fun b z ob u q => by
    by_cases w : b = a
    · rw [w, upd_same] at q; cases q; exact hn _ _ rfl
    · rw [upd_ne w] at q; exact f.nofz b z ob u q
  own := f.own
  f0 := f.f0
  fnew := f.fnew
  keep := fun b u z n => by
    have ne : b ≠ a := fun w => by
      subst w
      rcases f.own b m with q | q
      · exact n q
      · rw [z] at q; cases q
    rw [upd_ne ne]
    exact f.keep b u z n
  dom := fun b n => by
    by_cases w : b = a
    · rw [w, upd_same]; simp
    · rw [upd_ne w]; exact f.dom b n
/-- behind a call that was handed S0 -/
theorem Fr.call {e : Ent} {F H F' H' : Hp} {S R S' : List Addr} (f : Fr e F H (S ++ R)) (c : Fr ⟨F, H, S⟩ F' H' S') : Fr e F' H' (S' ++ R) ∧ At R H H' := by
  have nd := List.nodup_append.mp f.nd
  have notS : ∀ a ∈ R, a ∉ S := fun a m z => nd.2.2 a z a m rfl
  have at_ : At R H H' := fun a m u z => c.keep a u z (notS a m)
  have eown : ∀ a, a ∈ S ∨ H a = none → a ∈ e.S ∨ e.H a = none := fun a z => by
    rcases z with z | z
    · exact f.own a (List.mem_append_left _ z)
    · refine .inr ?_
      cases w : e.H a with
      | none => rfl
      | some y => exact absurd z (f.dom a (by rw [w]; simp))
  refine ⟨⟨c.fle, ?_, fun a m => ?_, fun a m => ?_, fun a m o u z => ?_, fun a m => ?_, f.f0.trans c.f0, fun a u z => ?_, fun a o z n => ?_, fun a n => c.dom a (f.dom a n)⟩, at_⟩
  · refine List.nodup_append.mpr ⟨c.nd, nd.2.1, fun a h1 b h2 z => ?_⟩
    subst z
    rcases c.own a h1 with q | q
    · exact notS a h2 q
    · exact (f.there a (List.mem_append_right _ h2)).1 q
  · rcases List.mem_append.mp m with m | m
    · exact c.off a m
    · cases w : F' a with
      | none => rfl
      | some u =>
        rcases c.fnew a u w with q | q | q | ⟨g, q⟩
        · exact absurd (f.off a (List.mem_append_right _ m)) q
        · exact absurd q (notS a m)
        · exact absurd q (f.there a (List.mem_append_right _ m)).1
        · exact absurd q ((f.there a (List.mem_append_right _ m)).2 u g)
  · rcases List.mem_append.mp m with m | m
    · exact c.there a m
    · have th := f.there a (List.mem_append_right _ m)
      cases w : H a with
      | none => exact absurd w th.1
      | some y =>
        have w2 := at_ a m y w
        refine ⟨by rw [w2]; simp, fun u g z => ?_⟩
        rw [w2] at z
        cases z
        exact th.2 _ g w
  · rcases List.mem_append.mp m with m | m
    · exact c.nofz a m o u z
    · cases w : H a with
      | none => exact (f.there a (List.mem_append_right _ m)).1 w
      | some y =>
        rw [at_ a m y w] at z
        cases z
        exact f.nofz a (List.mem_append_right _ m) o u w
  · rcases List.mem_append.mp m with m | m
    · exact eown a (c.own a m)
    · exact f.own a (List.mem_append_right _ m)
  · rcases c.fnew a u z with q | q | q | ⟨g, q⟩
    · cases w : F a with
      | none => exact absurd w q
      | some y =>
        have := c.f0 a y w
        rw [z] at this
        cases this
        exact f.fnew a _ w
    · rcases eown a (.inl q) with r | r
      · exact .inr (.inl r)
      · exact .inr (.inr (.inl r))
    · rcases eown a (.inr q) with r | r
      · exact .inr (.inl r)
      · exact .inr (.inr (.inl r))
    · cases w : e.H a with
      | none => exact .inr (.inr (.inl rfl))
      | some y =>
        by_cases m : a ∈ e.S
        · exact .inr (.inl m)
        · have := f.keep a y w m
          rw [show H a = some u from q] at this
          cases this
          exact .inr (.inr (.inr ⟨g, rfl⟩))
  · refine c.keep a o (f.keep a o z n) fun q => ?_
    rcases f.own a (List.mem_append_left _ q) with w | w
    · exact n w
    · rw [z] at w; cases w
/-- entries compose -/
theorem Fr.trans {e : Ent} {F H F' H' : Hp} {S S' : List Addr} (f : Fr e F H S) (c : Fr ⟨F, H, S⟩ F' H' S') : Fr e F' H' S' := by
  have f' : Fr e F H (S ++ []) := by rw [List.append_nil]; exact f
  have := (f'.call c).1
  rw [List.append_nil] at this
  exact this
theorem Fr.refl {e : Ent} {F H : Hp} {S : List Addr} (f : Fr e F H S) : Fr ⟨F, H, S⟩ F H S :=
  ⟨f.fle, f.nd, f.off, f.there, f.nofz, fun _ m => .inl m, Same.refl _, fun a u z => .inl (by show F a ≠ none; rw [z]; simp), fun _ _ z _ => z, fun _ n => n⟩

/-! ### the state of a body -/
/-- an exception: its class, what its own fields hold -/
structure Ex where
  c : Nat
  fs : Option (List (Str × PD))
structure StW (k : Kc) (P : List (Nat × V)) (e : Ent) (σ : L2.St) (ρ : List O) (vs : List V) (os : List O) (F H : Hp) (S1 S2 : List Addr) : Prop where
  env : Envs k F H σ ρ S1
  tmp : Owns k F H vs os S2
  fr : Fr e F H (S1 ++ S2)
  pin : ∀ p ∈ P, σ[p.1]? = some (some p.2)
def St (k : Kc) (P : List (Nat × V)) (e : Ent) (σ : L2.St) (ρ : List O) (vs : List V) (os : List O) (H : Hp) : Prop := ∃ F S1 S2, StW k P e σ ρ vs os F H S1 S2
inductive RepF (K : Frag) (F : Hp) : List (Str × V) → List (Str × PD) → Prop
  | nil : RepF K F [] []
  | cons {x : Str} {v : V} {d : PD} {vs : List (Str × V)} {ds : List (Str × PD)} : Rep K F v d → RepF K F vs ds → RepF K F ((x, v) :: vs) ((x, d) :: ds)
def XRep (k : Kc) (F H : Hp) (x : Ex) (c : Value) (d : Option Addr) : Prop := c = .ref (k.cl x.c) ∧ match x.fs with
  | none => d = none
  | some fs => ∃ dx vs, d = some dx ∧ H dx = some (.xd vs) ∧ RepF k.K F vs fs
def StX (k : Kc) (P : List (Nat × V)) (e : Ent) (σ : L2.St) (ρ : List O) (vs : List V) (os : List O) (x : Ex) (c : Value) (d : Option Addr) (H : Hp) : Prop := ∃ F S1 S2, StW k P e σ ρ vs os F H S1 S2 ∧ XRep k F H x c d
inductive R (α : Type) where
  | ok (a : α) (ρ : List O)
  | exc (x : Ex) (ρ : List O)
  | bad
abbrev M (α : Type) := List O → R α
def ROk {α β : Type} (k : Kc) (P : List (Nat × V)) (e : Ent) (σ : L2.St) (vs : List V) (os : List O) (E : XK) (good : α → List O → Prop) : R α → Prop
  | .ok a ρ => good a ρ
  | .exc x ρ => ∀ c d H, StX k P e σ ρ vs os x c d H → E c d H
  | .bad => False
def TEm (k : Kc) (E : XK) (t : TE) (m : M O) : Prop := ∀ (P : List (Nat × V)) (e : Ent) (σ : L2.St) (ρ : List O) (vs : List V) (os : List O) (H : Hp) (Q : VK), St k P e σ ρ vs os H →
  ROk (β := Unit) k P e σ vs os E (fun o ρ' => ∀ v H', St k P e σ ρ' (v :: vs) (o :: os) H' → Q v H') (m ρ) → t σ H Q
def TTm (k : Kc) (E : XK) (t : TT) (m : M Bool) : Prop := ∀ (P : List (Nat × V)) (e : Ent) (σ : L2.St) (ρ : List O) (vs : List V) (os : List O) (H : Hp) (Q : Bool → Hp → Prop), St k P e σ ρ vs os H →
  ROk (β := Unit) k P e σ vs os E (fun b ρ' => ∀ H', St k P e σ ρ' vs os H' → Q b H') (m ρ) → t σ H Q
/-- arguments: Rf says which are slots handed on -/
def RefsAt (σ : L2.St) : List (Option Nat) → List V → Prop
  | [], [] => True
  | none :: as, _ :: ws => RefsAt σ as ws
  | some i :: as, w :: ws => σ[i]? = some (some w) ∧ RefsAt σ as ws
  | _, _ => False
def TAm (k : Kc) (E : XK) (t : TA) (as : List (Option Nat)) (m : M (List O)) : Prop := ∀ (P : List (Nat × V)) (e : Ent) (σ : L2.St) (ρ : List O) (vs : List V) (os : List O) (H : Hp) (Q : List V → Hp → Prop), St k P e σ ρ vs os H →
  ROk (β := Unit) k P e σ vs os E (fun xs ρ' => ∀ ws H', St k P e σ ρ' (ws ++ vs) (xs ++ os) H' → ws.length = xs.length → RefsAt σ as ws → Q ws H') (m ρ) → t σ H Q

theorem StW.qs {k : Kc} {P : List (Nat × V)} {e : Ent} {σ : L2.St} {ρ : List O} {vs : List V} {os : List O} {F H : Hp} {S1 S2 : List Addr} (s : StW k P e σ ρ vs os F H S1 S2) : Qs k F H σ ρ S1 :=
  ⟨s.fr.fle, s.env, fun a m => s.fr.off a (List.mem_append_left _ m)⟩
theorem StW.xt {k : Kc} {P : List (Nat × V)} {e : Ent} {σ : L2.St} {ρ : List O} {vs : List V} {os : List O} {F H F' H' : Hp} {S1 S2 : List Addr} (s : StW k P e σ ρ vs os F H S1 S2) (x : Xt F H F' H') : StW k P e σ ρ vs os F' H' S1 S2 :=
  ⟨s.env.xt x, s.tmp.mono x.sub (At.of x.ex), s.fr.xt x, s.pin⟩
/-- a new value beside -/
theorem StW.push {k : Kc} {P : List (Nat × V)} {e : Ent} {σ : L2.St} {ρ : List O} {vs : List V} {os : List O} {F H F' H' : Hp} {S1 S2 T : List Addr} {v : V} {o : O} (s : StW k P e σ ρ vs os F H S1 S2) (x : Xt F H F' H') (w : Own k F' H' v o T) (t : Fresh F' H H' T) :
    StW k P e σ ρ (v :: vs) (o :: os) F' H' S1 (T ++ S2) := by
  have s' := s.xt x
  refine ⟨s'.env, .cons w s'.tmp, ?_, s.pin⟩
  refine (s.fr.fresh x t w.there).perm ?_
  rw [← List.append_assoc, ← List.append_assoc]
  exact List.Perm.append_right _ List.perm_append_comm
def mLift (q : QE) : M O := fun ρ => match q ρ with
  | some (.fz d) => .ok (.fz d) ρ
  | _ => .bad
def mNew (q : QE) : M O := fun ρ => match q ρ with
  | some o => .ok o ρ
  | none => .bad
section
variable {k : Kc} {E : XK} {t ta tb te : TE} {q : QE} {m m1 m2 : M O}
theorem tem_new (h : TEn k t q) : TEm k E t (mNew q) := by
  intro P e σ ρ vs os H Q s r
  obtain ⟨F, S1, S2, s⟩ := s
  unfold mNew at r
  cases e1 : q ρ with
  | none => rw [e1] at r; exact r.elim
  | some o =>
    rw [e1] at r
    exact h F H σ ρ S1 o Q s.qs e1 fun v F' H' T x w f => r v H' ⟨F', S1, T ++ S2, s.push x w f⟩
theorem tem_lift (h : TEv k t q) : TEm k E t (mLift q) := by
  intro P e σ ρ vs os H Q s r
  obtain ⟨F, S1, S2, s⟩ := s
  unfold mLift at r
  split at r
  · rename_i d e1
    exact h F H σ ρ S1 _ Q s.qs e1 fun v F' H' x w => r v H' ⟨F', S1, [] ++ S2, s.push x (.fz w.rep) ⟨.nil, (fun a m => by cases m), (fun a m => by cases m), (fun a m => by cases m)⟩⟩
  · exact r.elim
/-- what is one's own, frozen -/
def frzM (m : M O) : M O := fun ρ => match m ρ with
  | .ok o ρ' => match toPD o with
    | some d => .ok (.fz d) ρ'
    | none => .bad
  | r => r
theorem StW.frz {P : List (Nat × V)} {e : Ent} {σ : L2.St} {ρ : List O} {vs : List V} {os : List O} {F H : Hp} {S1 S2 : List Addr} {v : V} {o : O} {d : PD} (s : StW k P e σ ρ (v :: vs) (o :: os) F H S1 S2) (e1 : toPD o = some d) :
    St k P e σ ρ (v :: vs) (.fz d :: os) H := by
  obtain ⟨env, tmp, fr, pin⟩ := s
  cases tmp with
  | @cons _ _ _ _ T U w r =>
    have fr' : Fr e F H (T ++ (S1 ++ U)) := fr.perm (by
      rw [← List.append_assoc, ← List.append_assoc]
      exact List.Perm.append_right _ List.perm_append_comm)
    have f2 := fr'.freeze
    have off : ∀ a ∈ T, F a = none := fun a m => fr'.off a (List.mem_append_left _ m)
    exact ⟨over F H T, S1, [] ++ U, env.mono (over_sub off) (At.of (Same.refl _)), .cons (.fz (w.freeze off e1)) (r.mono (over_sub off) (At.of (Same.refl _))), f2, pin⟩
theorem tem_frz (h : TEm k E t m) : TEm k E t (frzM m) := by
  intro P e σ ρ vs os H Q s r
  refine h P e σ ρ vs os H Q s ?_
  unfold frzM at r
  cases e1 : m ρ with
  | ok o ρ' =>
    rw [e1] at r
    simp only at r
    cases e2 : toPD o with
    | none => rw [e2] at r; exact r.elim
    | some d =>
      rw [e2] at r
      intro v H' s'
      obtain ⟨F, S1, S2, s'⟩ := s'
      exact r v H' (s'.frz e2)
  | exc x ρ' => rw [e1] at r; exact r
  | bad => rw [e1] at r; exact r
/-- two operands -/
def mOp (f : O → O → Option O) (m1 m2 : M O) : M O := fun ρ => match m1 ρ with
  | .ok (.fz d1) ρ1 => match m2 ρ1 with
    | .ok (.fz d2) ρ2 => match f (.fz d1) (.fz d2) with
      | some (.fz d) => .ok (.fz d) ρ2
      | _ => .bad
    | .ok _ _ => .bad
    | .exc x ρ2 => .exc x ρ2
    | .bad => .bad
  | .ok _ _ => .bad
  | .exc x ρ1 => .exc x ρ1
  | .bad => .bad
theorem StX.pop {P : List (Nat × V)} {e : Ent} {σ : L2.St} {ρ : List O} {vs : List V} {os : List O} {v : V} {o : O} {x : Ex} {c : Value} {d : Option Addr} {H : Hp} (s : StX k P e σ ρ (v :: vs) (o :: os) x c d H) : StX k P e σ ρ vs os x c d H := by
  obtain ⟨F, S1, S2, ⟨env, tmp, fr, pin⟩, xr⟩ := s
  cases tmp with
  | @cons _ _ _ _ T U w r => exact ⟨F, S1, U, ⟨env, r, fr.sub (List.Sublist.append (.refl _) (List.sublist_append_right _ _)), pin⟩, xr⟩
theorem St.pop {P : List (Nat × V)} {e : Ent} {σ : L2.St} {ρ : List O} {vs : List V} {os : List O} {v : V} {o : O} {H : Hp} (s : St k P e σ ρ (v :: vs) (o :: os) H) : St k P e σ ρ vs os H := by
  obtain ⟨F, S1, S2, ⟨env, tmp, fr, pin⟩⟩ := s
  cases tmp with
  | @cons _ _ _ _ T U w r => exact ⟨F, S1, U, ⟨env, r, fr.sub (List.Sublist.append (.refl _) (List.sublist_append_right _ _)), pin⟩⟩
theorem StW.top {P : List (Nat × V)} {e : Ent} {σ : L2.St} {ρ : List O} {vs : List V} {os : List O} {F H : Hp} {S1 S2 : List Addr} {v : V} {d : PD} (s : StW k P e σ ρ (v :: vs) (.fz d :: os) F H S1 S2) : Rep k.K F v d ∧ StW k P e σ ρ vs os F H S1 S2 := by
  obtain ⟨env, tmp, fr, pin⟩ := s
  cases tmp with
  | cons w r =>
    cases w with
    | fz w => exact ⟨w, ⟨env, r, fr, pin⟩⟩
theorem tem_op {r : R2} {f : O → O → Option O} (h1 : TEm k E ta m1) (h2 : TEm k E tb m2) (hr : OpV k r f) : TEm k E (tOp r ta tb) (mOp f m1 m2) := by
  intro P e σ ρ vs os H Q s g
  refine h1 P e σ ρ vs os H _ s ?_
  unfold mOp at g
  cases e1 : m1 ρ with
  | bad => rw [e1] at g; exact g
  | exc x ρ1 => rw [e1] at g; exact g
  | ok o1 ρ1 =>
    rw [e1] at g
    intro v H1 s1
    cases o1 with
    | fz d1 =>
      simp only at g
      refine h2 P e σ ρ1 _ _ H1 _ s1 ?_
      cases e2 : m2 ρ1 with
      | bad => rw [e2] at g; exact g
      | exc x ρ2 =>
        rw [e2] at g
        exact fun c d H' sx => g c d H' sx.pop
      | ok o2 ρ2 =>
        rw [e2] at g
        intro w H2 s2
        cases o2 with
        | fz d2 =>
          simp only at g
          obtain ⟨F, S1, S2, s2⟩ := s2
          obtain ⟨r2, s3⟩ := s2.top
          obtain ⟨r1, s4⟩ := s3.top
          split at g
          · rename_i d ed
            refine hr F H2 [] v w _ _ _ Q s4.fr.fle (fun a m => by cases m) (fun a m => by cases m) (.fz r1) (.fz r2) ed fun z F' H' x wz => g z H' ⟨F', S1, [] ++ S2, s4.push x (.fz wz.rep) ⟨.nil, (fun a m => by cases m), (fun a m => by cases m), (fun a m => by cases m)⟩⟩
          · exact g.elim
        | _ => exact g.elim
    | _ => exact g.elim
/-- the left one first with effect, then a view -/
def mOpV (f : O → O → Option O) (m1 : M O) (q2 : QE) : M O := fun ρ => match m1 ρ with
  | .ok (.fz d1) ρ1 => match q2 ρ1 with
    | some o2 => match f (.fz d1) o2 with
      | some (.fz d) => .ok (.fz d) ρ1
      | _ => .bad
    | none => .bad
  | .ok _ _ => .bad
  | .exc x ρ1 => .exc x ρ1
  | .bad => .bad
theorem tem_opV {r : R2} {f : O → O → Option O} {q2 : QE} (h1 : TEm k E ta m1) (h2 : TEv k tb q2) (hr : OpV k r f) : TEm k E (tOp r ta tb) (mOpV f m1 q2) := by
  intro P e σ ρ vs os H Q s g
  refine h1 P e σ ρ vs os H _ s ?_
  unfold mOpV at g
  cases e1 : m1 ρ with
  | bad => rw [e1] at g; exact g
  | exc x ρ1 => rw [e1] at g; exact g
  | ok o1 ρ1 =>
    rw [e1] at g
    intro v H1 s1
    cases o1 with
    | fz d1 =>
      simp only at g
      cases e2 : q2 ρ1 with
      | none => rw [e2] at g; exact g.elim
      | some o2 =>
        rw [e2] at g
        simp only at g
        obtain ⟨F, S1, S2, s1⟩ := s1
        obtain ⟨r1, s3⟩ := s1.top
        split at g
        · rename_i d ed
          refine h2 F H1 σ ρ1 S1 o2 _ s3.qs e2 fun w F2 H2 x2 w2 => ?_
          have s4 := s3.xt x2
          exact hr F2 H2 S1 v w _ _ _ Q s4.fr.fle (fun a m => s4.fr.off a (List.mem_append_left _ m)) (fun a m => s4.fr.there a (List.mem_append_left _ m)) (.fz (r1.sub x2.sub)) w2 ed fun z F' H' x wz => g z H' ⟨F', S1, [] ++ S2, s4.push x (.fz wz.rep) ⟨.nil, (fun a m => by cases m), (fun a m => by cases m), (fun a m => by cases m)⟩⟩
        · exact g.elim
    | _ => exact g.elim
theorem Envs.slot {F H : Hp} {σ : L2.St} {ρ : List O} {S : List Addr} {i : Nat} {o : O} (h : Envs k F H σ ρ S) (e : qVar i ρ = some o) : ∃ v, σ[i]? = some (some v) ∧ Vw k F H S v o := by
  have e1 : ρ[i]? = some o ∧ o ≠ .dead := by
    unfold qVar at e
    split at e
    · cases e
    · rename_i hne
      refine ⟨e, fun z => hne ?_⟩
      rw [e, z]
  rcases h.get e1.1 with z | z
  · exact absurd z e1.2
  · exact z
/-- a slot's view on the left, looked up behind the right one's effect -/
def mOpS (f : O → O → Option O) (i : Nat) (m2 : M O) : M O := fun ρ => match qVar i ρ with
  | none => .bad
  | some _ => match m2 ρ with
    | .ok (.fz d2) ρ1 => match qVar i ρ1 with
      | some o1 => match f o1 (.fz d2) with
        | some (.fz d) => .ok (.fz d) ρ1
        | _ => .bad
      | none => .bad
    | .ok _ _ => .bad
    | .exc x ρ1 => .exc x ρ1
    | .bad => .bad
theorem tem_opS {r : R2} {f : O → O → Option O} {i : Nat} (h2 : TEm k E tb m2) (hr : OpV k r f) : TEm k E (tOp r (tVar i) tb) (mOpS f i m2) := by
  intro P e σ ρ vs os H Q s g
  unfold mOpS at g
  cases e0 : qVar i ρ with
  | none => rw [e0] at g; exact g.elim
  | some o0 =>
    rw [e0] at g
    simp only at g
    obtain ⟨F0, S1, S2, s0⟩ := id s
    obtain ⟨v, hv, _⟩ := s0.env.slot e0
    refine ⟨v, hv, h2 P e σ ρ vs os H _ s ?_⟩
    cases e2 : m2 ρ with
    | bad => rw [e2] at g; exact g
    | exc x ρ2 => rw [e2] at g; exact g
    | ok o2 ρ1 =>
      rw [e2] at g
      intro w H2 s2
      cases o2 with
      | fz d2 =>
        simp only at g
        cases e1 : qVar i ρ1 with
        | none => rw [e1] at g; exact g.elim
        | some o1 =>
          rw [e1] at g
          simp only at g
          obtain ⟨F, T1, T2, s2⟩ := s2
          obtain ⟨r2, s4⟩ := s2.top
          obtain ⟨v', hv', wv⟩ := s4.env.slot e1
          rw [hv] at hv'
          cases hv'
          split at g
          · rename_i d ed
            exact hr F H2 T1 v w _ _ _ Q s4.fr.fle (fun a m => s4.fr.off a (List.mem_append_left _ m)) (fun a m => s4.fr.there a (List.mem_append_left _ m)) wv (.fz r2) ed fun z F' H' x wz => g z H' ⟨F', T1, [] ++ T2, s4.push x (.fz wz.rep) ⟨.nil, (fun a m => by cases m), (fun a m => by cases m), (fun a m => by cases m)⟩⟩
          · exact g.elim
      | _ => exact g.elim
end
end FM
namespace FM
open PySem L2 PyProof.Rows
/-! ### parts of a footprint -/
def Sbp (T S : List Addr) : Prop := ∃ U, (T ++ U).Perm S
theorem Sbp.fr {e : Ent} {F H : Hp} {S T : List Addr} (f : Fr e F H S) (h : Sbp T S) : Fr e F H T := by
  obtain ⟨U, p⟩ := h
  exact (f.perm p).sub (List.sublist_append_left _ _)
theorem Sbp.of_count {T S : List Addr} (h : ∀ a, T.count a ≤ S.count a) : Sbp T S := by
  induction T generalizing S with
  | nil => exact ⟨S, .refl _⟩
  | cons a T ih =>
    have ha : a ∈ S := List.count_pos_iff.mp (by
      have := h a
      rw [List.count_cons_self] at this
      omega)
    obtain ⟨U, p⟩ := ih (S := S.erase a) fun b => by
      have hb := h b
      rw [List.count_erase]
      rw [List.count_cons] at hb
      by_cases e : (a == b) = true
      · have eq : a = b := by simpa using e
        subst eq
        simp only [beq_self_eq_true, if_true] at hb ⊢
        omega
      · have ne : ¬ a = b := by simpa using e
        simp only [e] at hb ⊢
        have e2 : (b == a) = false := by simpa using fun z => ne z.symm
        simp at hb ⊢
        omega
    refine ⟨U, ?_⟩
    exact (List.Perm.cons a p).trans (List.perm_cons_erase ha).symm
theorem Sbp.count {T S : List Addr} (h : Sbp T S) (a : Addr) : T.count a ≤ S.count a := by
  obtain ⟨U, p⟩ := h
  have := p.count_eq a
  rw [List.count_append] at this
  omega
theorem Sbp.sub {T S : List Addr} (h : T.Sublist S) : Sbp T S := .of_count fun a => h.count_le a
theorem Sbp.perm {T S : List Addr} (h : T.Perm S) : Sbp T S := .of_count fun a => by rw [h.count_eq a]; exact Nat.le_refl _
theorem Sbp.mem {T S : List Addr} (h : Sbp T S) {a : Addr} (m : a ∈ T) : a ∈ S := List.count_pos_iff.mp (by
  have := h.count a
  have := List.count_pos_iff.mpr m
  omega)
theorem Owns.split {k : Kc} {F H : Hp} : ∀ {ws zs : List V} {xs ys : List O} {S : List Addr}, ws.length = xs.length → Owns k F H (ws ++ zs) (xs ++ ys) S → ∃ A B, S = A ++ B ∧ Owns k F H ws xs A ∧ Owns k F H zs ys B
  | [], _, [], _, S, _, h => ⟨[], S, rfl, .nil, h⟩
  | _ :: ws, _, _ :: xs, _, _, e, .cons (S := T) w r => by
    obtain ⟨A, B, e1, h1, h2⟩ := Owns.split (ws := ws) (xs := xs) (Nat.succ.inj e) r
    subst e1
    exact ⟨T ++ A, B, by rw [List.append_assoc], .cons w h1, h2⟩
theorem Owns.join {k : Kc} {F H : Hp} : ∀ {ws zs : List V} {xs ys : List O} {A B : List Addr}, Owns k F H ws xs A → Owns k F H zs ys B → ∃ S, S = A ++ B ∧ Owns k F H (ws ++ zs) (xs ++ ys) S
  | _, _, _, _, _, B, .nil, h => ⟨B, rfl, h⟩
  | _, _, _, _, _, B, .cons (S := T) (T := U) w r, h => by
    obtain ⟨S, e, q⟩ := Owns.join r h
    exact ⟨T ++ S, by rw [e, List.append_assoc], .cons w q⟩
theorem Envs.take {k : Kc} {F H : Hp} : ∀ {σ : L2.St} {ρ : List O} {S : List Addr} {i : Nat} {o : O}, Envs k F H σ ρ S → ρ[i]? = some o → o ≠ .dead → ∃ v T R, σ[i]? = some (some v) ∧ Own k F H v o T ∧ Envs k F H σ (ρ.set i .dead) R ∧ (T ++ R).Perm S
  | _, _, _, _, _, .nil, e, _ => by simp at e
  | _, _, _, 0, _, .dead r, e, n => by
    have e' : _ = _ := Option.some.inj (by simpa using e)
    exact absurd e'.symm n
  | _, _, _, 0, _, .cons h r, e, n => by
    have e' : _ = _ := Option.some.inj (by simpa using e)
    subst e'
    exact ⟨_, _, _, rfl, h, .dead r, .refl _⟩
  | _, _, _, i + 1, _, .dead r, e, n => by
    obtain ⟨v, T, R, h1, h2, h3, h4⟩ := Envs.take (i := i) r (by simpa using e) n
    exact ⟨v, T, R, by simpa using h1, h2, .dead h3, h4⟩
  | _, _, _, i + 1, _, .cons (S := S1) h r, e, n => by
    obtain ⟨v, T, R, h1, h2, h3, h4⟩ := Envs.take (i := i) r (by simpa using e) n
    refine ⟨v, T, S1 ++ R, by simpa using h1, h2, .cons h h3, List.perm_iff_count.mpr fun a => ?_⟩
    have := h4.count_eq a
    simp only [List.count_append] at this ⊢
    omega
theorem qVar_some {i : Nat} {ρ : List O} {o : O} (e : qVar i ρ = some o) : ρ[i]? = some o ∧ o ≠ .dead := by
  unfold qVar at e
  split at e
  · cases e
  · rename_i hne
    refine ⟨e, fun z => hne ?_⟩
    rw [e, z]
theorem Envs.put {k : Kc} {F H : Hp} {σ : L2.St} {ρ : List O} {S T : List Addr} {i : Nat} {v : V} {o : O} (h : Envs k F H σ ρ S) (hv : σ[i]? = some (some v)) (w : Own k F H v o T) : ∃ U, Sbp U (T ++ S) ∧ Envs k F H σ (ρ.set i o) U := by
  have es : σ.set i (some v) = σ := by
    apply List.ext_getElem?
    intro j
    rw [List.getElem?_set]
    split
    · rename_i e
      subst e
      split
      · exact hv.symm
      · rename_i hn
        rw [List.getElem?_eq_none (by omega)] at hv
        cases hv
    · rfl
  rcases Envs.setO w i h with ⟨S', m, U, p, q⟩ | ⟨S2, m, q⟩
  · rw [es] at q
    refine ⟨U, .of_count fun a => ?_, q⟩
    have h1 := p.count_eq a
    have h2 := m.count_le a
    simp only [List.count_append] at h1 ⊢
    omega
  · rw [es] at q
    refine ⟨S2, .of_count fun a => ?_, q⟩
    have h2 := m.count_le a
    simp only [List.count_append]
    omega
/-! ### arguments -/
def mNil : M (List O) := fun ρ => .ok [] ρ
def mCons (m1 : M O) (m2 : M (List O)) : M (List O) := fun ρ => match m1 ρ with
  | .ok o ρ1 => match m2 ρ1 with
    | .ok xs ρ2 => .ok (o :: xs) ρ2
    | .exc x ρ2 => .exc x ρ2
    | .bad => .bad
  | .exc x ρ1 => .exc x ρ1
  | .bad => .bad
def mRef (i : Nat) (m2 : M (List O)) : M (List O) := fun ρ => match qVar i ρ with
  | none => .bad
  | some _ => match m2 ρ with
    | .ok xs ρ2 => .ok (.dead :: xs) ρ2
    | .exc x ρ2 => .exc x ρ2
    | .bad => .bad
section
variable {k : Kc} {E : XK} {te : TE} {tl : TA} {m1 : M O} {m2 : M (List O)} {as : List (Option Nat)}
theorem tam_nil : TAm k E tNil [] mNil := by
  intro P e σ ρ vs os H Q s g
  exact g [] H s rfl trivial
theorem StW.rot {P : List (Nat × V)} {e : Ent} {σ : L2.St} {ρ : List O} {vs ws : List V} {os xs : List O} {F H : Hp} {S1 S2 : List Addr} {v : V} {o : O} (hl : ws.length = xs.length) (s : StW k P e σ ρ (ws ++ v :: vs) (xs ++ o :: os) F H S1 S2) :
    St k P e σ ρ ((v :: ws) ++ vs) ((o :: xs) ++ os) H := by
  obtain ⟨env, tmp, fr, pin⟩ := s
  obtain ⟨A, B, e1, h1, h2⟩ := Owns.split hl tmp
  subst e1
  cases h2 with
  | @cons _ _ _ _ T U w r =>
    obtain ⟨S, e2, h3⟩ := Owns.join (.cons w h1) r
    refine ⟨F, S1, S, env, h3, fr.perm ?_, pin⟩
    subst e2
    refine List.perm_iff_count.mpr fun a => ?_
    simp only [List.count_append]
    omega
theorem StX.drop {P : List (Nat × V)} {e : Ent} {σ : L2.St} {ρ : List O} {vs : List V} {os : List O} {v : V} {o : O} {x : Ex} {c : Value} {d : Option Addr} {H : Hp} (s : StX k P e σ ρ (v :: vs) (o :: os) x c d H) : StX k P e σ ρ vs os x c d H := s.pop
theorem tam_val (h1 : TEm k E te m1) (h2 : TAm k E tl as m2) : TAm k E (tCons te tl) (none :: as) (mCons m1 m2) := by
  intro P e σ ρ vs os H Q s g
  refine h1 P e σ ρ vs os H _ s ?_
  unfold mCons at g
  cases e1 : m1 ρ with
  | bad => rw [e1] at g; exact g
  | exc x ρ1 => rw [e1] at g; exact g
  | ok o ρ1 =>
    rw [e1] at g
    intro v H1 s1
    simp only at g
    refine h2 P e σ ρ1 _ _ H1 _ s1 ?_
    cases e2 : m2 ρ1 with
    | bad => rw [e2] at g; exact g
    | exc x ρ2 =>
      rw [e2] at g
      exact fun c d H' sx => g c d H' sx.pop
    | ok xs ρ2 =>
      rw [e2] at g
      intro ws H2 s2 hl hr
      obtain ⟨F, S1, S2, s2⟩ := s2
      exact g (v :: ws) H2 (s2.rot hl) (by simp [hl]) hr
theorem tam_ref {i : Nat} (h2 : TAm k E tl as m2) : TAm k E (tCons (tVar i) tl) (some i :: as) (mRef i m2) := by
  intro P e σ ρ vs os H Q s g
  unfold mRef at g
  cases e0 : qVar i ρ with
  | none => rw [e0] at g; exact g.elim
  | some o0 =>
    rw [e0] at g
    simp only at g
    obtain ⟨F0, S1, S2, s0⟩ := id s
    obtain ⟨v, hv, _⟩ := s0.env.slot e0
    refine ⟨v, hv, ?_⟩
    have s1 : St k P e σ ρ (v :: vs) (.dead :: os) H := ⟨F0, S1, [] ++ S2, s0.env, .cons .dead s0.tmp, s0.fr, s0.pin⟩
    refine h2 P e σ ρ _ _ H _ s1 ?_
    cases e2 : m2 ρ with
    | bad => rw [e2] at g; exact g
    | exc x ρ2 =>
      rw [e2] at g
      exact fun c d H' sx => g c d H' sx.pop
    | ok xs ρ2 =>
      rw [e2] at g
      intro ws H2 s2 hl hr
      obtain ⟨F, S1, S2, s2⟩ := s2
      exact g (v :: ws) H2 (s2.rot hl) (by simp [hl]) ⟨hv, hr⟩
end
def fillA : List (Option Nat) → List O → List O → Option (List O × List O)
  | [], [], ρ => some ([], ρ)
  | none :: as, x :: xs, ρ => match fillA as xs ρ with
    | none => none
    | some z => some (x :: z.1, z.2)
  | some i :: as, _ :: xs, ρ => match qVar i ρ with
    | none => none
    | some o => match fillA as xs (ρ.set i .dead) with
      | none => none
      | some z => some (o :: z.1, z.2)
  | _, _, _ => none
def backA : List (Option Nat) → List O → List O → List O
  | none :: as, _ :: xs, ρ => backA as xs ρ
  | some i :: as, o :: xs, ρ => backA as xs (ρ.set i o)
  | _, _, ρ => ρ
theorem fill_ok {k : Kc} {F H : Hp} {σ : L2.St} : ∀ {as : List (Option Nat)} {xs ρ ys ρ' : List O} {ws : List V} {S A : List Addr}, Envs k F H σ ρ S → Owns k F H ws xs A → RefsAt σ as ws → fillA as xs ρ = some (ys, ρ') →
    ∃ S' A', Envs k F H σ ρ' S' ∧ Owns k F H ws ys A' ∧ Sbp (A' ++ S') (A ++ S)
  | [], [], ρ, ys, ρ', ws, S, A, en, ow, _, e => by
    have e' := Option.some.inj e
    cases e'
    cases ow
    exact ⟨S, [], en, .nil, .perm (.refl _)⟩
  | none :: as, x :: xs, ρ, ys, ρ', _, S, _, en, .cons (S := T) (T := A2) w r, hr, e => by
    unfold fillA at e
    cases e1 : fillA as xs ρ with
    | none => rw [e1] at e; cases e
    | some z =>
      rw [e1] at e
      have e' := Option.some.inj e
      cases e'
      obtain ⟨S', A', h1, h2, h3⟩ := fill_ok en r (show RefsAt σ as _ from hr) e1
      refine ⟨S', T ++ A', h1, .cons w h2, .of_count fun a => ?_⟩
      have := h3.count a
      simp only [List.count_append] at this ⊢
      omega
  | some i :: as, x :: xs, ρ, ys, ρ', v :: ws, S, _, en, .cons (S := T) (T := A2) w r, hr, e => by
    unfold fillA at e
    cases e0 : qVar i ρ with
    | none => rw [e0] at e; cases e
    | some o =>
      rw [e0] at e
      simp only at e
      cases e1 : fillA as xs (ρ.set i .dead) with
      | none => rw [e1] at e; cases e
      | some z =>
        rw [e1] at e
        have e' := Option.some.inj e
        cases e'
        obtain ⟨hv, hr⟩ := hr
        obtain ⟨g1, g2⟩ := qVar_some e0
        obtain ⟨v', T', R, a1, a2, a3, a4⟩ := en.take g1 g2
        rw [hv] at a1
        cases a1
        obtain ⟨S', A', h1, h2, h3⟩ := fill_ok a3 r hr e1
        refine ⟨S', T' ++ A', h1, .cons a2 h2, .of_count fun a => ?_⟩
        have c1 := h3.count a
        have c2 := a4.count_eq a
        simp only [List.count_append] at c1 c2 ⊢
        omega
  | [], _ :: _, _, _, _, _, _, _, _, _, _, e => by cases e
  | none :: _, [], _, _, _, _, _, _, _, _, _, e => by cases e
  | some _ :: _, [], _, _, _, _, _, _, _, _, _, e => by cases e
theorem back_ok {k : Kc} {F H : Hp} {σ : L2.St} : ∀ {as : List (Option Nat)} {outs ρ : List O} {ws : List V} {S A : List Addr}, Envs k F H σ ρ S → Owns k F H ws outs A → RefsAt σ as ws → ∃ S', Envs k F H σ (backA as outs ρ) S' ∧ Sbp S' (A ++ S)
  | [], outs, ρ, ws, S, A, en, ow, _ => ⟨S, en, .sub (List.sublist_append_right _ _)⟩
  | none :: as, [], ρ, ws, S, A, en, ow, _ => ⟨S, en, .sub (List.sublist_append_right _ _)⟩
  | some i :: as, [], ρ, ws, S, A, en, ow, _ => ⟨S, en, .sub (List.sublist_append_right _ _)⟩
  | none :: as, x :: xs, ρ, _, S, _, en, .cons (S := T) (T := A2) w r, hr => by
    obtain ⟨S', h1, h2⟩ := back_ok en r (show RefsAt σ as _ from hr)
    refine ⟨S', h1, .of_count fun a => ?_⟩
    have := h2.count a
    simp only [List.count_append] at this ⊢
    omega
  | some i :: as, x :: xs, ρ, v :: ws, S, _, en, .cons (S := T) (T := A2) w r, hr => by
    obtain ⟨hv, hr⟩ := hr
    obtain ⟨U, h0, en'⟩ := en.put hv w
    obtain ⟨S', h1, h2⟩ := back_ok en' r hr
    refine ⟨S', h1, .of_count fun a => ?_⟩
    have c1 := h2.count a
    have c2 := h0.count a
    simp only [List.count_append] at c1 c2 ⊢
    omega
/-! ### what a def does -/
inductive FR where
  | ret (o : O) (outs : List O)
  | exc (x : Ex) (outs : List O)
  | bad
def FOk (k : Kc) (e : Ent) (ws : List V) (Q : VK) (E : XK) : FR → Prop
  | .ret o outs => ∀ v H', (∃ F' S', Owns k F' H' (v :: ws) (o :: outs) S' ∧ Fr e F' H' S') → Q v H'
  | .exc x outs => ∀ c d H', (∃ F' S', Owns k F' H' ws outs S' ∧ Fr e F' H' S' ∧ XRep k F' H' x c d) → E c d H'
  | .bad => False
def spM (k : Kc) (n : Nat) (f : List O → FR) : Sp := fun ws H Q E => ws.length = n ∧ ∃ F os S, Owns k F H ws os S ∧ Fr ⟨F, H, S⟩ F H S ∧ FOk k ⟨F, H, S⟩ ws Q E (f os)
def mCall (f : List O → FR) (as : List (Option Nat)) (ma : M (List O)) : M O := fun ρ => match ma ρ with
  | .ok xs ρ1 => match fillA as xs ρ1 with
    | none => .bad
    | some z => match f z.1 with
      | .ret o outs => .ok o (backA as outs z.2)
      | .exc x outs => .exc x (backA as outs z.2)
      | .bad => .bad
  | .exc x ρ1 => .exc x ρ1
  | .bad => .bad
theorem tem_call {k : Kc} {E : XK} {tl : TA} {as : List (Option Nat)} {ma : M (List O)} {n : Nat} {f : List O → FR} (hn : as.length = n) (h : TAm k E tl as ma) : TEm k E (tCall (spM k n f) [] E tl) (mCall f as ma) := by
  intro P e σ ρ vs os H Q s g
  refine h P e σ ρ vs os H _ s ?_
  unfold mCall at g
  cases e1 : ma ρ with
  | bad => rw [e1] at g; exact g
  | exc x ρ1 => rw [e1] at g; exact g
  | ok xs ρ1 =>
    rw [e1] at g
    simp only at g
    intro ws H1 s1 hl hr
    cases e2 : fillA as xs ρ1 with
    | none => rw [e2] at g; exact g.elim
    | some z =>
      obtain ⟨ys, ρ2⟩ := z
      rw [e2] at g
      simp only at g
      obtain ⟨F, S1, S2, env, tmp, fr, pin⟩ := s1
      obtain ⟨A, B, eS, o1, o2⟩ := Owns.split hl tmp
      subst eS
      obtain ⟨S1', A', h1, h2, h3⟩ := fill_ok env o1 hr e2
      have fr' : Fr e F H1 (A' ++ (S1' ++ B)) := Sbp.fr fr (.of_count fun a => by
        have := h3.count a
        simp only [List.count_append] at this ⊢
        omega)
      have lens : ∀ {as : List (Option Nat)} {ws : List V}, RefsAt σ as ws → ws.length = as.length := by
        intro as
        induction as with
        | nil =>
          intro ws z
          cases ws with
          | nil => rfl
          | cons _ _ => exact z.elim
        | cons a as ih =>
          intro ws z
          cases ws with
          | nil => cases a <;> exact z.elim
          | cons w ws =>
            cases a with
            | none => exact congrArg (· + 1) (ih (show RefsAt σ as ws from z))
            | some i => exact congrArg (· + 1) (ih z.2)
      rw [List.append_nil]
      refine ⟨by rw [lens hr]; exact hn, F, ys, A', h2, (fr'.sub (List.sublist_append_left _ _)).refl, ?_⟩
      cases e3 : f ys with
      | bad => rw [e3] at g; exact g
      | ret o outs =>
        rw [e3] at g
        simp only at g
        intro v H' z
        obtain ⟨F', S', p1, p2⟩ := z
        obtain ⟨p3, p4⟩ := fr'.call p2
        cases p1 with
        | @cons _ _ _ _ T U w r =>
          obtain ⟨S'', q1, q2⟩ := back_ok (h1.mono p2.f0 p4.left) r hr
          refine g v H' ⟨F', S'', T ++ B, q1, .cons w (o2.mono p2.f0 p4.right), Sbp.fr p3 (.of_count fun a => ?_), pin⟩
          have := q2.count a
          simp only [List.count_append] at this ⊢
          omega
      | exc x outs =>
        rw [e3] at g
        simp only at g
        intro c d H' z
        obtain ⟨F', S', p1, p2, p5⟩ := z
        obtain ⟨p3, p4⟩ := fr'.call p2
        obtain ⟨S'', q1, q2⟩ := back_ok (h1.mono p2.f0 p4.left) p1 hr
        refine g c d H' ⟨F', S'', B, ⟨q1, o2.mono p2.f0 p4.right, Sbp.fr p3 (.of_count fun a => ?_), pin⟩, p5⟩
        have := q2.count a
        simp only [List.count_append] at this ⊢
        omega
/-! ### quiet defs: data in, data out -/
abbrev QF := List PD → Option PD
def spQ (k : Kc) (n : Nat) (q : QF) : Sp := fun ws H Q E => ws.length = n ∧ ∃ F ds d, Reps k.K F ws ds ∧ FLe F H ∧ q ds = some d ∧ ∀ v F' H', Xt F H F' H' → Rep k.K F' v d → Q v H'
def qOf (f : List O → FR) : QF := fun ds => match f (ds.map .fz) with
  | .ret o _ => toPD o
  | _ => none
theorem Reps.owns {k : Kc} {F H : Hp} : ∀ {vs : List V} {ds : List PD}, Reps k.K F vs ds → Owns k F H vs (ds.map .fz) []
  | _, _, .nil => .nil
  | _, _, .cons h r => .cons (.fz h) (Reps.owns r)
theorem spQ.imp {k : Kc} {n : Nat} {f : List O → FR} {ws : List V} {H : Hp} {Q : VK} {E : XK} (h : spQ k n (qOf f) ws H Q E) : spM k n f ws H Q E := by
  obtain ⟨hn, F, ds, d, r, fl, e, q⟩ := h
  refine ⟨hn, F, ds.map .fz, [], r.owns, ⟨fl, .nil, (fun a m => by cases m), (fun a m => by cases m), (fun a m => by cases m), (fun a m => by cases m), Same.refl _, fun a u z => .inl (by show F a ≠ none; rw [z]; simp), fun _ _ z _ => z, fun _ n => n⟩, ?_⟩
  unfold qOf at e
  split at e
  · rename_i o outs e1
    rw [e1]
    intro v H' z
    obtain ⟨F', S', p1, p2⟩ := z
    cases p1 with
    | @cons _ _ _ _ T U w r =>
      have off : ∀ a ∈ T, F' a = none := fun a m => p2.off a (List.mem_append_left _ m)
      refine q v (over F' H' T) H' ⟨fun a u z => p2.keep a u z (by simp), p2.f0.trans (over_sub off), over_le p2.fle, fun a u z => ?_⟩ (w.freeze off e)
      have z2 := z
      rcases over_fresh z with z | z
      · rcases p2.fnew a u z with y | y | y
        · cases w : F a with
          | none => exact absurd w y
          | some t =>
            have := p2.f0 a t w
            rw [z] at this
            exact .inl (by rw [this])
        · cases y
        · exact .inr y
      · rcases p2.own a (List.mem_append_left _ z) with y | y
        · cases y
        · exact .inr (.inl y)
  · cases e
mutual
def imm : PD → Bool
  | .none => true
  | .bool _ => true
  | .int _ => true
  | .str _ => true
  | .tuple ds => imms ds
  | .list _ => false
  | .dict _ => false
def imms : List PD → Bool
  | [] => true
  | d :: ds => imm d && imms ds
end
mutual
theorem Rep.imm {K : Frag} {F G : Hp} (s : ∀ a vs, F a = some (.tup vs) → G a = some (.tup vs)) : ∀ {v : V} {d : PD}, Rep K F v d → FM.imm d = true → Rep K G v d
  | _, _, .non, _ => .non
  | _, _, .bl b, _ => .bl b
  | _, _, .int i, _ => .int i
  | _, _, .str x, _ => .str x
  | _, _, .lst h r, e => by simp [FM.imm] at e
  | _, _, .tup h r, e => .tup (s _ _ h) (Reps.imm s r (by simpa [FM.imm] using e))
  | _, _, .dic h r e1, e => by subst e1; simp [FM.imm] at e
  | _, _, .dit h r e1, e => by subst e1; simp [FM.imm] at e
theorem Reps.imm {K : Frag} {F G : Hp} (s : ∀ a vs, F a = some (.tup vs) → G a = some (.tup vs)) : ∀ {v : List V} {d : List PD}, Reps K F v d → FM.imms d = true → Reps K G v d
  | _, _, .nil, _ => .nil
  | _, _, .cons h r, e => by
    have e' : _ ∧ _ := Bool.and_eq_true_iff.mp (by simpa only [FM.imms] using e)
    exact .cons (Rep.imm s h e'.1) (Reps.imm s r e'.2)
end
/-! lists and dicts of one's own, without tuples -/
mutual
def flatO : O → Bool
  | .fz _ => true
  | .lst _ => true
  | .dic _ => true
  | .dit _ => true
  | .nst os => flatOs os
  | .ntp _ => false
  | .ndc _ => false
  | .ins _ _ => false
  | .ktp _ => false
  | .dead => true
def flatOs : List O → Bool
  | [] => true
  | o :: os => flatO o && flatOs os
end
theorem rd_notup {H : Hp} {a : Addr} {u : HO} (h : Rd H a u) (hu : ∀ vs, u ≠ .tup vs) : ∀ vs, H a ≠ some (.tup vs) := fun vs z => by
  rcases h with h | ⟨o, h⟩
  · rw [h] at z; cases z; exact hu vs rfl
  · rw [h] at z; cases z
mutual
theorem Own.notup {k : Kc} {F H : Hp} : ∀ {v : V} {o : O} {S : List Addr}, Own k F H v o S → flatO o = true → ∀ a ∈ S, ∀ vs, H a ≠ some (.tup vs)
  | _, _, _, .fz _, _, a, m => by cases m
  | _, _, _, .lst h _, _, a, m => by rw [List.mem_singleton.mp m]; exact rd_notup h fun _ z => by cases z
  | _, _, _, .dic h _, _, a, m => by rw [List.mem_singleton.mp m]; exact rd_notup h fun _ z => by cases z
  | _, _, _, .dit h _, _, a, m => by rw [List.mem_singleton.mp m]; exact rd_notup h fun _ z => by cases z
  | _, _, _, .nst h r, e, a, m => by
    rcases List.mem_cons.mp m with e1 | m
    · rw [e1]; exact rd_notup h fun _ z => by cases z
    · exact Owns.notup r (by simpa [flatO] using e) a m
  | _, _, _, .ntp _ _ _, e, a, m => by simp [flatO] at e
  | _, _, _, .ndc _ _, e, a, m => by simp [flatO] at e
  | _, _, _, .ins _ _, e, a, m => by simp [flatO] at e
  | _, _, _, .ktp _ _, e, a, m => by cases m
  | _, _, _, .dead, _, a, m => by cases m
theorem Owns.notup {k : Kc} {F H : Hp} : ∀ {v : List V} {o : List O} {S : List Addr}, Owns k F H v o S → flatOs o = true → ∀ a ∈ S, ∀ vs, H a ≠ some (.tup vs)
  | _, _, _, .nil, _, a, m => by cases m
  | _, _, _, .cons h r, e, a, m => by
    have e' : _ ∧ _ := Bool.and_eq_true_iff.mp (by simpa only [flatOs] using e)
    exact (List.mem_append.mp m).elim (Own.notup h e'.1 a) (Owns.notup r e'.2 a)
end
def qCall (q : QF) (r : List O → Option (List O)) : QE := fun ρ => match r ρ with
  | none => none
  | some os => match fzs os with
    | some ds => (q ds).map .fz
    | none => if flatOs os then match toPDs os with
      | none => none
      | some ds => match q ds with
        | none => none
        | some d => if imm d then some (.fz d) else none
      else none
theorem Vws.length {k : Kc} {F H : Hp} {S : List Addr} : ∀ {vs : List V} {os : List O}, Vws k F H S vs os → vs.length = os.length
  | _, _, .nil => rfl
  | _, _, .cons _ r => congrArg (· + 1) (Vws.length r)
theorem fzs_length : ∀ {os : List O} {ds : List PD}, fzs os = some ds → os.length = ds.length
  | [], ds, e => by
    have e' := Option.some.inj e
    subst e'
    rfl
  | .fz d :: r, ds, e => by
    obtain ⟨z, e1, e2⟩ := Option.map_eq_some_iff.mp (show (fzs r).map (fun z => d :: z) = some ds from e)
    subst e2
    simp [fzs_length e1]
  | .lst _ :: _, _, e => by cases e
  | .dic _ :: _, _, e => by cases e
  | .dit _ :: _, _, e => by cases e
  | .nst _ :: _, _, e => by cases e
  | .ntp _ :: _, _, e => by cases e
  | .ndc _ :: _, _, e => by cases e
  | .ins _ _ :: _, _, e => by cases e
  | .ktp _ :: _, _, e => by cases e
  | .dead :: _, _, e => by cases e
/-- views of lists and dicts: together what they lean on -/
theorem Vws.flat {k : Kc} {F H : Hp} {S : List Addr} (off : ∀ a ∈ S, F a = none) : ∀ {vs : List V} {os : List O} {ds : List PD}, Vws k F H S vs os → flatOs os = true → toPDs os = some ds → ∃ T : List Addr, (∀ a ∈ T, a ∈ S) ∧ (∀ a ∈ T, ∀ vs, H a ≠ some (.tup vs)) ∧ (∀ U : List Addr, (∀ a ∈ T, a ∈ U) → (∀ a ∈ U, a ∈ S) → Reps k.K (over F H U) vs ds)
  | _, _, _, .nil, _, e => by
    have e' := Option.some.inj e
    subst e'
    exact ⟨[], (fun a m => by cases m), (fun a m => by cases m), fun _ _ _ => .nil⟩
  | _, _, _, .cons (o := o) (os := os) w ws, fl, e => by
    have fl' : _ ∧ _ := Bool.and_eq_true_iff.mp (by simpa only [flatOs] using fl)
    unfold toPDs at e
    cases q1 : toPD o with
    | none => rw [q1] at e; cases e
    | some d =>
      cases q2 : toPDs os with
      | none => rw [q1, q2] at e; cases e
      | some ds =>
        rw [q1, q2] at e
        have e' := Option.some.inj e
        subst e'
        obtain ⟨T1, m1, w1⟩ := w
        obtain ⟨T2, m2, n2, r2⟩ := Vws.flat off ws fl'.2 q2
        refine ⟨T1 ++ T2, fun a z => (List.mem_append.mp z).elim (m1 a) (m2 a), fun a z => (List.mem_append.mp z).elim (Own.notup w1 fl'.1 a) (n2 a), fun U h1 h2 => ?_⟩
        refine .cons ?_ (r2 U (fun a z => h1 a (List.mem_append_right _ z)) h2)
        exact own_fz (T := U) (over_sub fun a z => off a (h2 a z)) (fun a u m r => over_rd m r) (fun a vs m r => by rw [over_in m]; exact r) (fun a z => h1 a (List.mem_append_left _ z)) w1 q1
theorem tev_call {k : Kc} {E : XK} {tl : TA} {qs : List O → Option (List O)} {n : Nat} {q : QF} (hn : ∀ ρ os, qs ρ = some os → os.length = n) (h : TAv k tl qs) : TEv k (tCall (spQ k n q) [] E tl) (qCall q qs) := by
  intro F H σ ρ S o Q qst e g
  unfold qCall at e
  cases e1 : qs ρ with
  | none => rw [e1] at e; cases e
  | some os =>
    rw [e1] at e
    simp only at e
    refine h F H σ ρ S os _ qst e1 fun ws F1 H1 x1 w1 => ?_
    have q1 := qst.xt x1
    rw [List.append_nil]
    refine ⟨by rw [w1.length]; exact hn ρ os e1, ?_⟩
    cases e2 : fzs os with
    | some ds =>
      rw [e2] at e
      obtain ⟨d, e3, e4⟩ := Option.map_eq_some_iff.mp e
      subst e4
      exact ⟨F1, ds, d, w1.fzs e2, x1.fle, e3, fun v F' H' x r => g v F' H' (x1.trans x) (.fz r)⟩
    | none =>
      rw [e2] at e
      simp only at e
      split at e
      · rename_i fl
        cases e3 : toPDs os with
        | none => rw [e3] at e; cases e
        | some ds =>
          rw [e3] at e
          simp only at e
          cases e4 : q ds with
          | none => rw [e4] at e; cases e
          | some d =>
            rw [e4] at e
            simp only at e
            split at e
            · rename_i im
              have e' := Option.some.inj e
              subst e'
              obtain ⟨T, mT, nT, rT⟩ := w1.flat q1.off fl e3
              have offT : ∀ a ∈ T, F1 a = none := fun a z => q1.off a (mT a z)
              refine ⟨over F1 H1 T, ds, d, rT T (fun _ z => z) mT, over_le x1.fle, e4, fun v F' H' x r => ?_⟩
              let G : Hp := fun a => if a ∈ T then none else F' a
              have gout : ∀ {a : Addr}, a ∉ T → G a = F' a := fun n => if_neg n
              have hT : ∀ a ∈ T, ∃ u, H1 a = some u := fun a z => by
                cases w : H1 a with
                | none => exact absurd w ((q1.env.there a (mT a z)).1)
                | some u => exact ⟨u, rfl⟩
              refine g v G H' (x1.trans ⟨x.ex, fun a u z => ?_, fun a u z => ?_, fun a u z => ?_⟩) (.fz (r.imm (fun a vs z => ?_) im))
              · have n : a ∉ T := fun m => by rw [offT a m] at z; cases z
                rw [gout n]
                exact x.sub a u (by rw [over_out n]; exact z)
              · by_cases n : a ∈ T
                · have : G a = none := if_pos n
                  rw [this] at z; cases z
                · rw [gout n] at z
                  exact x.fle a u z
              · by_cases n : a ∈ T
                · have : G a = none := if_pos n
                  rw [this] at z; cases z
                · rw [gout n] at z
                  rcases x.fresh a u z with y | y
                  · rw [over_out n] at y; exact .inl y
                  · exact .inr y
              · have n : a ∉ T := fun m => by
                  obtain ⟨u, hu⟩ := hT a m
                  have := x.sub a u (by rw [over_in m]; exact hu)
                  rw [z] at this
                  cases this
                  exact nT a m vs hu
                rw [gout n]
                exact z
            · cases e
      · cases e
end FM
namespace FM
open PySem L2 PyProof.Rows
/-! ### statements -/
inductive RS where
  | next (ρ : List O)
  | ret (o : O) (ρ : List O)
  | brk (ρ : List O)
  | cont (ρ : List O)
  | exc (x : Ex) (ρ : List O)
  | bad
abbrev MS := List O → RS
def SOk (k : Kc) (P : List (Nat × V)) (e : Ent) (vs : List V) (os : List O) (E : XK) (D : Ends) : RS → Prop
  | .next ρ => ∀ σ H, St k P e σ ρ vs os H → D.nx σ H
  | .ret o ρ => ∀ σ v H, St k P e σ ρ (v :: vs) (o :: os) H → D.rt v H
  | .brk ρ => ∀ σ H, St k P e σ ρ vs os H → D.bk σ H
  | .cont ρ => ∀ σ H, St k P e σ ρ vs os H → D.ct σ H
  | .exc x ρ => ∀ σ c d H, StX k P e σ ρ vs os x c d H → E c d H
  | .bad => False
def Off (P : List (Nat × V)) (A : List Nat) : Prop := ∀ p ∈ P, p.1 ∉ A
theorem Off.l {P : List (Nat × V)} {A B : List Nat} (h : Off P (A ++ B)) : Off P A := fun p m z => h p m (List.mem_append_left _ z)
theorem Off.r {P : List (Nat × V)} {A B : List Nat} (h : Off P (A ++ B)) : Off P B := fun p m z => h p m (List.mem_append_right _ z)
def TSm (k : Kc) (E : XK) (A : List Nat) (t : TS) (m : MS) : Prop := ∀ (P : List (Nat × V)) (e : Ent) (σ : L2.St) (ρ : List O) (vs : List V) (os : List O) (H : Hp) (D : Ends), Off P A → St k P e σ ρ vs os H →
  SOk k P e vs os E D (m ρ) → t D σ H
def sNext : MS := fun ρ => .next ρ
def sSeq (a b : MS) : MS := fun ρ => match a ρ with
  | .next ρ1 => b ρ1
  | r => r
def sBrk : MS := fun ρ => .brk ρ
def sCont : MS := fun ρ => .cont ρ
def sNever : MS := fun _ => .bad
def sDrop (m : M O) : MS := fun ρ => match m ρ with
  | .ok _ ρ1 => .next ρ1
  | .exc x ρ1 => .exc x ρ1
  | .bad => .bad
def sRet (m : M O) : MS := fun ρ => match m ρ with
  | .ok o ρ1 => .ret o ρ1
  | .exc x ρ1 => .exc x ρ1
  | .bad => .bad
def sRetN : MS := fun ρ => .ret (.fz .none) ρ
def sSet (j : Nat) (m : M O) : MS := fun ρ => match m ρ with
  | .ok o ρ1 => .next (ρ1.set j o)
  | .exc x ρ1 => .exc x ρ1
  | .bad => .bad
def sAsg (f : QG) (m : M O) : MS := fun ρ => match m ρ with
  | .ok (.fz d) ρ1 => match f d ρ1 with
    | some ρ2 => .next ρ2
    | none => .bad
  | .ok _ _ => .bad
  | .exc x ρ1 => .exc x ρ1
  | .bad => .bad
def sPar (i j : Nat) (m : M (List O)) : MS := fun ρ => match m ρ with
  | .ok [o1, o2] ρ1 => .next ((ρ1.set i o1).set j o2)
  | .ok _ _ => .bad
  | .exc x ρ1 => .exc x ρ1
  | .bad => .bad
def sPar3 (i j l : Nat) (m : M (List O)) : MS := fun ρ => match m ρ with
  | .ok [o1, o2, o3] ρ1 => .next (((ρ1.set i o1).set j o2).set l o3)
  | .ok _ _ => .bad
  | .exc x ρ1 => .exc x ρ1
  | .bad => .bad
def sIf (c : M Bool) (a b : MS) : MS := fun ρ => match c ρ with
  | .ok true ρ1 => a ρ1
  | .ok false ρ1 => b ρ1
  | .exc x ρ1 => .exc x ρ1
  | .bad => .bad
def bLift (q : List O → Option Bool) : M Bool := fun ρ => match q ρ with
  | some b => .ok b ρ
  | none => .bad
/-- where a state's end is stored: one takes the top -/
theorem St.store {k : Kc} {P : List (Nat × V)} {e : Ent} {σ : L2.St} {ρ : List O} {vs : List V} {os : List O} {H : Hp} {v : V} {o : O} {j : Nat} (s : St k P e σ ρ (v :: vs) (o :: os) H) (hj : Off P [j]) : St k P e (σ.set j (some v)) (ρ.set j o) vs os H := by
  obtain ⟨F, S1, S2, env, tmp, fr, pin⟩ := s
  have pin' : ∀ p ∈ P, (σ.set j (some v))[p.1]? = some (some p.2) := fun p m => by
    rw [List.getElem?_set_ne (fun z => hj p m (by rw [z]; exact List.mem_cons_self))]
    exact pin p m
  cases tmp with
  | @cons _ _ _ _ T U w r =>
    rcases Envs.setO w j env with ⟨S', m, U', p, q⟩ | ⟨S', m, q⟩
    · refine ⟨F, U', U, q, r, Sbp.fr fr (.of_count fun a => ?_), pin'⟩
      have c1 := p.count_eq a
      have c2 := m.count_le a
      simp only [List.count_append] at c1 ⊢
      omega
    · refine ⟨F, S', U, q, r, Sbp.fr fr (.of_count fun a => ?_), pin'⟩
      have c2 := m.count_le a
      simp only [List.count_append]
      omega
section
variable {k : Kc} {E : XK} {te : TE} {m m1 m2 : M O} {t u : TS} {a b : MS} {A B : List Nat} {tc : TT}
theorem tsm_next : TSm k E [] tNext sNext := fun P e σ ρ vs os H D _ s g => g σ H s
theorem tsm_brk : TSm k E [] tBreak sBrk := fun P e σ ρ vs os H D _ s g => g σ H s
theorem tsm_cont : TSm k E [] tCont sCont := fun P e σ ρ vs os H D _ s g => g σ H s
theorem tsm_never : TSm k E [] tNever sNever := fun P e σ ρ vs os H D _ s g => g
theorem tsm_seq (h1 : TSm k E A t a) (h2 : TSm k E B u b) : TSm k E (A ++ B) (tSeq t u) (sSeq a b) := by
  intro P e σ ρ vs os H D o s g
  refine h1 P e σ ρ vs os H _ o.l s ?_
  unfold sSeq at g
  cases e1 : a ρ with
  | next ρ1 =>
    rw [e1] at g
    intro σ1 H1 s1
    exact h2 P e σ1 ρ1 vs os H1 D o.r s1 g
  | ret o ρ1 => rw [e1] at g; exact g
  | brk ρ1 => rw [e1] at g; exact g
  | cont ρ1 => rw [e1] at g; exact g
  | exc x ρ1 => rw [e1] at g; exact g
  | bad => rw [e1] at g; exact g
theorem SOk.exc {P : List (Nat × V)} {e : Ent} {σ : L2.St} {vs : List V} {os : List O} {D : Ends} {x : Ex} {ρ : List O} (g : SOk k P e vs os E D (.exc x ρ)) : ∀ c d H, StX k P e σ ρ vs os x c d H → E c d H := fun c d H s => g σ c d H s
theorem tsm_drop (h : TEm k E te m) : TSm k E [] (tDrop te) (sDrop m) := by
  intro P e σ ρ vs os H D o s g
  refine h P e σ ρ vs os H _ s ?_
  unfold sDrop at g
  cases e1 : m ρ with
  | ok x ρ1 => rw [e1] at g; exact fun v H1 s1 => g σ H1 s1.pop
  | exc x ρ1 => rw [e1] at g; exact g.exc
  | bad => rw [e1] at g; exact g
theorem tsm_ret (h : TEm k E te m) : TSm k E [] (tRet te) (sRet m) := by
  intro P e σ ρ vs os H D o s g
  refine h P e σ ρ vs os H _ s ?_
  unfold sRet at g
  cases e1 : m ρ with
  | ok x ρ1 => rw [e1] at g; exact fun v H1 s1 => g σ v H1 s1
  | exc x ρ1 => rw [e1] at g; exact g.exc
  | bad => rw [e1] at g; exact g
theorem tsm_retN : TSm k E [] tRetN sRetN := by
  intro P e σ ρ vs os H D o s g
  obtain ⟨F, S1, S2, env, tmp, fr, pin⟩ := s
  exact g σ .non H ⟨F, S1, [] ++ S2, env, .cons (.fz .non) tmp, fr, pin⟩
theorem tsm_set {j : Nat} (h : TEm k E te m) : TSm k E [j] (tAsg te (gName j)) (sSet j m) := by
  intro P e σ ρ vs os H D o s g
  refine h P e σ ρ vs os H _ s ?_
  unfold sSet at g
  cases e1 : m ρ with
  | ok x ρ1 => rw [e1] at g; exact fun v H1 s1 => g _ H1 (s1.store o)
  | exc x ρ1 => rw [e1] at g; exact g.exc
  | bad => rw [e1] at g; exact g
theorem St.target {P : List (Nat × V)} {e : Ent} {σ : L2.St} {ρ ρ' : List O} {vs : List V} {os : List O} {H : Hp} {v : V} {d : PD} {g : TG} {f : QG} {J : List Nat} {Q : L2.St → Hp → Prop} (hg : TGq k g f J) (s : St k P e σ ρ (v :: vs) (.fz d :: os) H) (o : Off P J) (e1 : f d ρ = some ρ') (q : ∀ σ', St k P e σ' ρ' vs os H → Q σ' H) : g v σ H Q := by
  obtain ⟨F, S1, S2, s⟩ := s
  obtain ⟨r, s2⟩ := s.top
  refine hg F H σ ρ ρ' S1 v d Q s2.qs r e1 fun σ' S' q' m' ag => q σ' ⟨F, S', S2, q'.env, s2.tmp, s2.fr.sub (List.Sublist.append m' (.refl _)), fun p m => ?_⟩
  rw [ag.at_ p.1 (o p m)]
  exact s2.pin p m
theorem tsm_asg {g : TG} {f : QG} {J : List Nat} (hg : TGq k g f J) (h : TEm k E te m) : TSm k E J (tAsg te g) (sAsg f m) := by
  intro P e σ ρ vs os H D o s g'
  refine h P e σ ρ vs os H _ s ?_
  unfold sAsg at g'
  cases e1 : m ρ with
  | ok x ρ1 =>
    rw [e1] at g'
    intro v H1 s1
    cases x with
    | fz d =>
      simp only at g'
      cases e2 : f d ρ1 with
      | none => rw [e2] at g'; exact g'.elim
      | some ρ2 =>
        rw [e2] at g'
        exact St.target hg s1 o e2 fun σ' s2 => g' σ' H1 s2
    | _ => exact g'.elim
  | exc x ρ1 => rw [e1] at g'; exact g'.exc
  | bad => rw [e1] at g'; exact g'
theorem St.swap {P : List (Nat × V)} {e : Ent} {σ : L2.St} {ρ : List O} {vs : List V} {os : List O} {H : Hp} {v w : V} {x y : O} (s : St k P e σ ρ (v :: w :: vs) (x :: y :: os) H) : St k P e σ ρ (w :: v :: vs) (y :: x :: os) H := by
  obtain ⟨F, S1, S2, env, tmp, fr, pin⟩ := s
  cases tmp with
  | @cons _ _ _ _ T U w1 r =>
    cases r with
    | @cons _ _ _ _ T2 U2 w2 r =>
      refine ⟨F, S1, T2 ++ (T ++ U2), env, .cons w2 (.cons w1 r), Sbp.fr fr (.of_count fun a => ?_), pin⟩
      simp only [List.count_append]
      omega
theorem tsm_par {i j : Nat} {ta : TA} {as : List (Option Nat)} {m : M (List O)} (h : TAm k E ta as m) : TSm k E [i, j] (tPar i j ta) (sPar i j m) := by
  intro P e σ ρ vs os H D o s g
  refine h P e σ ρ vs os H _ s ?_
  unfold sPar at g
  cases e1 : m ρ with
  | ok xs ρ1 =>
    rw [e1] at g
    intro ws H1 s1 hl _
    split at g
    · rename_i o1 o2 ρ2 e2
      cases e2
      match ws, hl with
      | [v, w], _ =>
        have s1 : St k P e σ ρ1 (v :: w :: vs) (o1 :: o2 :: os) H1 := s1
        exact ⟨v, w, rfl, g _ H1 ((s1.store fun p m z => o p m (by rw [List.mem_singleton.mp z]; simp)).store fun p m z => o p m (by rw [List.mem_singleton.mp z]; simp))⟩
    · exact g.elim
    · rename_i e2; cases e2
    · rename_i e2; cases e2
  | exc x ρ1 => rw [e1] at g; exact g.exc
  | bad => rw [e1] at g; exact g
end
end FM
namespace FM
open PySem L2 PyProof.Rows
section
variable {k : Kc} {E : XK} {te : TE} {m m1 m2 : M O} {t u : TS} {a b : MS} {A B : List Nat} {tc : TT}
theorem tsm_par3 {i j l : Nat} {ta : TA} {as : List (Option Nat)} {m : M (List O)} (h : TAm k E ta as m) : TSm k E [i, j, l] (tPar3 i j l ta) (sPar3 i j l m) := by
  intro P e σ ρ vs os H D o s g
  refine h P e σ ρ vs os H _ s ?_
  unfold sPar3 at g
  cases e1 : m ρ with
  | ok xs ρ1 =>
    rw [e1] at g
    intro ws H1 s1 hl _
    split at g
    · rename_i o1 o2 o3 ρ2 e2
      cases e2
      match ws, hl with
      | [v, w, z], _ =>
        have s1 : St k P e σ ρ1 (v :: w :: z :: vs) (o1 :: o2 :: o3 :: os) H1 := s1
        exact ⟨v, w, z, rfl, g _ H1 (((s1.store fun p m z => o p m (by rw [List.mem_singleton.mp z]; simp)).store fun p m z => o p m (by rw [List.mem_singleton.mp z]; simp)).store fun p m z => o p m (by rw [List.mem_singleton.mp z]; simp))⟩
    · exact g.elim
    · rename_i e2; cases e2
    · rename_i e2; cases e2
  | exc x ρ1 => rw [e1] at g; exact g.exc
  | bad => rw [e1] at g; exact g
theorem ttm_lift {q : List O → Option Bool} (h : TTv k tc q) : TTm k E tc (bLift q) := by
  intro P e σ ρ vs os H Q s g
  obtain ⟨F, S1, S2, s⟩ := s
  unfold bLift at g
  cases e1 : q ρ with
  | none => rw [e1] at g; exact g.elim
  | some b =>
    rw [e1] at g
    exact h F H σ ρ S1 b Q s.qs e1 fun F' H' x => g H' ⟨F', S1, S2, s.xt x⟩
def bTest (m : M O) : M Bool := fun ρ => match m ρ with
  | .ok (.fz (.bool b)) ρ1 => .ok b ρ1
  | .ok _ _ => .bad
  | .exc x ρ1 => .exc x ρ1
  | .bad => .bad
theorem St.bool {P : List (Nat × V)} {e : Ent} {σ : L2.St} {ρ : List O} {vs : List V} {os : List O} {H : Hp} {v : V} {b : Bool} (s : St k P e σ ρ (v :: vs) (.fz (.bool b) :: os) H) : v = .bl b ∧ St k P e σ ρ vs os H := by
  obtain ⟨F, S1, S2, s⟩ := s
  obtain ⟨r, s2⟩ := s.top
  refine ⟨?_, F, S1, S2, s2⟩
  cases r with
  | bl => rfl
  | dic _ _ e => cases e
  | dit _ _ e => cases e
theorem ttm_test (h : TEm k E te m) : TTm k E (tTest te) (bTest m) := by
  intro P e σ ρ vs os H Q s g
  refine h P e σ ρ vs os H _ s ?_
  unfold bTest at g
  cases e1 : m ρ with
  | ok x ρ1 =>
    rw [e1] at g
    intro v H1 s1
    split at g
    · rename_i b ρ2 e2
      cases e2
      obtain ⟨ev, s2⟩ := s1.bool
      exact ⟨b, ev, g H1 s2⟩
    · exact g.elim
    · rename_i e2; cases e2
    · rename_i e2; cases e2
  | exc x ρ1 => rw [e1] at g; exact g
  | bad => rw [e1] at g; exact g
theorem ttm_B (h : TEm k E te m) : TTm k E (tB te) (bTest m) := by
  intro P e σ ρ vs os H Q s g
  refine h P e σ ρ vs os H _ s ?_
  unfold bTest at g
  cases e1 : m ρ with
  | ok x ρ1 =>
    rw [e1] at g
    intro v H1 s1
    split at g
    · rename_i b ρ2 e2
      cases e2
      obtain ⟨ev, s2⟩ := s1.bool
      exact ⟨b, ev, g H1 s2⟩
    · exact g.elim
    · rename_i e2; cases e2
    · rename_i e2; cases e2
  | exc x ρ1 => rw [e1] at g; exact g
  | bad => rw [e1] at g; exact g
def bAnd (c d : M Bool) : M Bool := fun ρ => match c ρ with
  | .ok true ρ1 => d ρ1
  | r => r
def bOr (c d : M Bool) : M Bool := fun ρ => match c ρ with
  | .ok false ρ1 => d ρ1
  | r => r
def bNot (c : M Bool) : M Bool := fun ρ => match c ρ with
  | .ok b ρ1 => .ok (!b) ρ1
  | r => r
theorem ttm_and {t1 t2 : TT} {c d : M Bool} (h1 : TTm k E t1 c) (h2 : TTm k E t2 d) : TTm k E (tAnd t1 t2) (bAnd c d) := by
  intro P e σ ρ vs os H Q s g
  refine h1 P e σ ρ vs os H _ s ?_
  unfold bAnd at g
  cases e1 : c ρ with
  | ok x ρ1 =>
    rw [e1] at g
    intro H1 s1
    cases x with
    | true => rw [if_pos rfl]; exact h2 P e σ ρ1 vs os H1 Q s1 g
    | false => rw [if_neg (by decide)]; exact g H1 s1
  | exc x ρ1 => rw [e1] at g; exact g
  | bad => rw [e1] at g; exact g
theorem ttm_or {t1 t2 : TT} {c d : M Bool} (h1 : TTm k E t1 c) (h2 : TTm k E t2 d) : TTm k E (tOr t1 t2) (bOr c d) := by
  intro P e σ ρ vs os H Q s g
  refine h1 P e σ ρ vs os H _ s ?_
  unfold bOr at g
  cases e1 : c ρ with
  | ok x ρ1 =>
    rw [e1] at g
    intro H1 s1
    cases x with
    | false => rw [if_neg (by decide)]; exact h2 P e σ ρ1 vs os H1 Q s1 g
    | true => rw [if_pos rfl]; exact g H1 s1
  | exc x ρ1 => rw [e1] at g; exact g
  | bad => rw [e1] at g; exact g
theorem ttm_not {t1 : TT} {c : M Bool} (h1 : TTm k E t1 c) : TTm k E (tNot t1) (bNot c) := by
  intro P e σ ρ vs os H Q s g
  refine h1 P e σ ρ vs os H _ s ?_
  unfold bNot at g
  cases e1 : c ρ with
  | ok x ρ1 =>
    rw [e1] at g
    exact fun H1 s1 => g H1 s1
  | exc x ρ1 => rw [e1] at g; exact g
  | bad => rw [e1] at g; exact g
/-- values by and, or, not, if with effects -/
def mIf (c : M Bool) (a b : M O) : M O := fun ρ => match c ρ with
  | .ok true ρ1 => a ρ1
  | .ok false ρ1 => b ρ1
  | .exc x ρ1 => .exc x ρ1
  | .bad => .bad
theorem tem_if {ta tb : TE} {c : M Bool} (hc : TTm k E tc c) (h1 : TEm k E ta m1) (h2 : TEm k E tb m2) : TEm k E (tIf tc ta tb) (mIf c m1 m2) := by
  intro P e σ ρ vs os H Q s g
  refine hc P e σ ρ vs os H _ s ?_
  unfold mIf at g
  cases e1 : c ρ with
  | ok x ρ1 =>
    rw [e1] at g
    intro H1 s1
    cases x with
    | true => rw [if_pos rfl]; exact h1 P e σ ρ1 vs os H1 Q s1 g
    | false => rw [if_neg (by decide)]; exact h2 P e σ ρ1 vs os H1 Q s1 g
  | exc x ρ1 => rw [e1] at g; exact g
  | bad => rw [e1] at g; exact g
def mAnd (a b : M O) : M O := fun ρ => match a ρ with
  | .ok (.fz (.bool true)) ρ1 => b ρ1
  | .ok (.fz (.bool false)) ρ1 => .ok (.fz (.bool false)) ρ1
  | .ok _ _ => .bad
  | .exc x ρ1 => .exc x ρ1
  | .bad => .bad
def mOr (a b : M O) : M O := fun ρ => match a ρ with
  | .ok (.fz (.bool false)) ρ1 => b ρ1
  | .ok (.fz (.bool true)) ρ1 => .ok (.fz (.bool true)) ρ1
  | .ok _ _ => .bad
  | .exc x ρ1 => .exc x ρ1
  | .bad => .bad
def mNot (a : M O) : M O := fun ρ => match a ρ with
  | .ok (.fz (.bool b)) ρ1 => .ok (.fz (.bool (!b))) ρ1
  | .ok _ _ => .bad
  | .exc x ρ1 => .exc x ρ1
  | .bad => .bad
theorem St.val {P : List (Nat × V)} {e : Ent} {σ : L2.St} {ρ : List O} {vs : List V} {os : List O} {H : Hp} {v : V} {d : PD} (r : ∀ F, Rep k.K F v d) (s : St k P e σ ρ vs os H) : St k P e σ ρ (v :: vs) (.fz d :: os) H := by
  obtain ⟨F, S1, S2, env, tmp, fr, pin⟩ := s
  exact ⟨F, S1, [] ++ S2, env, .cons (.fz (r F)) tmp, fr, pin⟩
theorem tem_and {ta tb : TE} (h1 : TEm k E ta m1) (h2 : TEm k E tb m2) : TEm k E (tAndV ta tb) (mAnd m1 m2) := by
  intro P e σ ρ vs os H Q s g
  refine h1 P e σ ρ vs os H _ s ?_
  unfold mAnd at g
  cases e1 : m1 ρ with
  | ok x ρ1 =>
    rw [e1] at g
    intro v H1 s1
    split at g
    · rename_i e2
      cases e2
      obtain ⟨ev, s2⟩ := s1.bool
      refine ⟨true, ev, ?_⟩
      rw [if_pos rfl]
      exact h2 P e σ ρ1 vs os H1 Q s2 g
    · rename_i e2
      cases e2
      obtain ⟨ev, s2⟩ := s1.bool
      refine ⟨false, ev, ?_⟩
      rw [if_neg (by decide)]
      exact g _ H1 (s2.val fun F => .bl false)
    · exact g.elim
    · rename_i e2; cases e2
    · rename_i e2; cases e2
  | exc x ρ1 => rw [e1] at g; exact g
  | bad => rw [e1] at g; exact g
theorem tem_or {ta tb : TE} (h1 : TEm k E ta m1) (h2 : TEm k E tb m2) : TEm k E (tOrV ta tb) (mOr m1 m2) := by
  intro P e σ ρ vs os H Q s g
  refine h1 P e σ ρ vs os H _ s ?_
  unfold mOr at g
  cases e1 : m1 ρ with
  | ok x ρ1 =>
    rw [e1] at g
    intro v H1 s1
    split at g
    · rename_i e2
      cases e2
      obtain ⟨ev, s2⟩ := s1.bool
      refine ⟨false, ev, ?_⟩
      rw [if_neg (by decide)]
      exact h2 P e σ ρ1 vs os H1 Q s2 g
    · rename_i e2
      cases e2
      obtain ⟨ev, s2⟩ := s1.bool
      refine ⟨true, ev, ?_⟩
      rw [if_pos rfl]
      exact g _ H1 (s2.val fun F => .bl true)
    · exact g.elim
    · rename_i e2; cases e2
    · rename_i e2; cases e2
  | exc x ρ1 => rw [e1] at g; exact g
  | bad => rw [e1] at g; exact g
theorem tem_not {ta : TE} (h1 : TEm k E ta m1) : TEm k E (tNotV ta) (mNot m1) := by
  intro P e σ ρ vs os H Q s g
  refine h1 P e σ ρ vs os H _ s ?_
  unfold mNot at g
  cases e1 : m1 ρ with
  | ok x ρ1 =>
    rw [e1] at g
    intro v H1 s1
    split at g
    · rename_i b ρ2 e2
      cases e2
      obtain ⟨ev, s2⟩ := s1.bool
      exact ⟨b, ev, g _ H1 (s2.val fun F => .bl _)⟩
    · exact g.elim
    · rename_i e2; cases e2
    · rename_i e2; cases e2
  | exc x ρ1 => rw [e1] at g; exact g
  | bad => rw [e1] at g; exact g
theorem tsm_if {c : M Bool} (hc : TTm k E tc c) (h1 : TSm k E A t a) (h2 : TSm k E B u b) : TSm k E (A ++ B) (tIfS tc t u) (sIf c a b) := by
  intro P e σ ρ vs os H D o s g
  refine hc P e σ ρ vs os H _ s ?_
  unfold sIf at g
  cases e1 : c ρ with
  | ok x ρ1 =>
    rw [e1] at g
    intro H1 s1
    cases x with
    | true => rw [if_pos rfl]; exact h1 P e σ ρ1 vs os H1 D o.l s1 g
    | false => rw [if_neg (by decide)]; exact h2 P e σ ρ1 vs os H1 D o.r s1 g
  | exc x ρ1 => rw [e1] at g; exact g.exc
  | bad => rw [e1] at g; exact g
/-! ### loops -/
theorem StW.trans {P : List (Nat × V)} {e : Ent} {F H : Hp} {S : List Addr} (f : Fr e F H S) {σ : L2.St} {ρ : List O} {vs : List V} {os : List O} {F' H' : Hp} {S1 S2 : List Addr} (s : StW k P ⟨F, H, S⟩ σ ρ vs os F' H' S1 S2) : StW k P e σ ρ vs os F' H' S1 S2 :=
  ⟨s.env, s.tmp, f.trans s.fr, s.pin⟩
theorem St.trans {P : List (Nat × V)} {e : Ent} {F H : Hp} {S : List Addr} (f : Fr e F H S) {σ : L2.St} {ρ : List O} {vs : List V} {os : List O} {H' : Hp} (s : St k P ⟨F, H, S⟩ σ ρ vs os H') : St k P e σ ρ vs os H' :=
  let ⟨F', S1, S2, s⟩ := s
  ⟨F', S1, S2, s.trans f⟩
theorem StX.trans {P : List (Nat × V)} {e : Ent} {F H : Hp} {S : List Addr} (f : Fr e F H S) {σ : L2.St} {ρ : List O} {vs : List V} {os : List O} {H' : Hp} {x : Ex} {c : Value} {d : Option Addr} (s : StX k P ⟨F, H, S⟩ σ ρ vs os x c d H') : StX k P e σ ρ vs os x c d H' :=
  let ⟨F', S1, S2, s, r⟩ := s
  ⟨F', S1, S2, s.trans f, r⟩
/-- what is walked, with effect -/
def TIm (k : Kc) (E : XK) (wi : TI) (m : M (List PD)) : Prop := ∀ (P : List (Nat × V)) (e : Ent) (σ : L2.St) (ρ : List O) (vs : List V) (os : List O) (H : Hp) (R : It → Hp → Prop), St k P e σ ρ vs os H →
  ROk (β := Unit) k P e σ vs os E (fun ds ρ' => ∀ J F' H' S1 S2, StW k P e σ ρ' vs os F' H' S1 S2 → WalkD k (fun F2 _ => Same F' F2) J ds → R J H') (m ρ) → wi σ H R
def iLift (q : QI) : M (List PD) := fun ρ => match q ρ with
  | some ds => .ok ds ρ
  | none => .bad
theorem tim_lift {wi : TI} {q : QI} (h : TIf k wi q) : TIm k E wi (iLift q) := by
  intro P e σ ρ vs os H R s g
  obtain ⟨F, S1, S2, s⟩ := s
  unfold iLift at g
  cases e1 : q ρ with
  | none => rw [e1] at g; exact g.elim
  | some ds =>
    rw [e1] at g
    exact h F H σ ρ S1 ds R s.qs e1 fun J F' H' x w => g J F' H' S1 S2 (s.xt x) w
def iList (m : M O) : M (List PD) := fun ρ => match m ρ with
  | .ok (.fz (.list ds)) ρ1 => .ok ds ρ1
  | .ok _ _ => .bad
  | .exc x ρ1 => .exc x ρ1
  | .bad => .bad
def iTup (m : M O) : M (List PD) := fun ρ => match m ρ with
  | .ok (.fz (.tuple ds)) ρ1 => .ok ds ρ1
  | .ok _ _ => .bad
  | .exc x ρ1 => .exc x ρ1
  | .bad => .bad
theorem tim_list (h : TEm k E te m) : TIm k E (L2.iList k.K te) (FM.iList m) := by
  intro P e σ ρ vs os H R s g
  refine h P e σ ρ vs os H _ s ?_
  unfold FM.iList at g
  cases e1 : m ρ with
  | ok x ρ1 =>
    rw [e1] at g
    intro v H1 s1
    split at g
    · rename_i ds ρ2 e2
      cases e2
      obtain ⟨F, S1, S2, s1⟩ := s1
      obtain ⟨r, s2⟩ := s1.top
      obtain ⟨a, vs, rfl, g1, g2⟩ := (Vw.fz (k := k) (H := H1) (S := []) r).fzL rfl
      exact ⟨a, rfl, ⟨vs, sqL_le s2.fr.fle g1⟩, g _ F H1 S1 S2 s2 (walkD_list (fun F2 H2 p f => ⟨sqL_le f (sqL_sub p g1), g2.sub p⟩) g2.length)⟩
    · exact g.elim
    · rename_i e2; cases e2
    · rename_i e2; cases e2
  | exc x ρ1 => rw [e1] at g; exact g
  | bad => rw [e1] at g; exact g
theorem tim_tup (h : TEm k E te m) : TIm k E (L2.iTup k.K te) (FM.iTup m) := by
  intro P e σ ρ vs os H R s g
  refine h P e σ ρ vs os H _ s ?_
  unfold FM.iTup at g
  cases e1 : m ρ with
  | ok x ρ1 =>
    rw [e1] at g
    intro v H1 s1
    split at g
    · rename_i ds ρ2 e2
      cases e2
      obtain ⟨F, S1, S2, s1⟩ := s1
      obtain ⟨r, s2⟩ := s1.top
      obtain ⟨a, vs, rfl, g1, g2⟩ := (Vw.fz (k := k) (H := F) (S := []) r).seqT (fun a u e => .inl e) (show FM.seqT (.fz (.tuple ds)) = some ds from rfl)
      exact ⟨a, rfl, ⟨vs, SqT.of (tup_le s2.fr.fle g1)⟩, g _ F H1 S1 S2 s2 (walkD_tup (fun F2 H2 p f => ⟨SqT.of (tup_le f (p _ _ g1)), g2.sub p⟩) g2.length)⟩
    · exact g.elim
    · rename_i e2; cases e2
    · rename_i e2; cases e2
  | exc x ρ1 => rw [e1] at g; exact g
  | bad => rw [e1] at g; exact g
def forGo (f : QG) (body : MS) : List PD → List O → RS
  | [], ρ => .next ρ
  | x :: xs, ρ => match f x ρ with
    | none => .bad
    | some ρ1 => match body ρ1 with
      | .next ρ2 => forGo f body xs ρ2
      | .cont ρ2 => forGo f body xs ρ2
      | .brk ρ2 => .next ρ2
      | .ret o ρ2 => .ret o ρ2
      | .exc x ρ2 => .exc x ρ2
      | .bad => .bad
def sFor (mi : M (List PD)) (f : QG) (body : MS) : MS := fun ρ => match mi ρ with
  | .ok ds ρ1 => forGo f body ds ρ1
  | .exc x ρ1 => .exc x ρ1
  | .bad => .bad
theorem tsm_for {wi : TI} {g : TG} {tb : TS} {mi : M (List PD)} {f : QG} {body : MS} {J : List Nat} (hi : TIm k E wi mi) (hg : TGq k g f J) (hb : TSm k E A tb body) : TSm k E (J ++ A) (tFor wi g tb) (sFor mi f body) := by
  intro P e σ ρ vs os H D o s gg
  refine hi P e σ ρ vs os H _ s ?_
  unfold sFor at gg
  cases e1 : mi ρ with
  | exc x ρ1 => rw [e1] at gg; exact gg.exc
  | bad => rw [e1] at gg; exact gg
  | ok ds ρ1 =>
    rw [e1] at gg
    simp only at gg
    intro It F H1 S1 S2 s1 W
    have f0 : Fr e F H1 (S1 ++ S2) := s1.fr
    let e' : Ent := ⟨F, H1, S1 ++ S2⟩
    have s1' : St k P e' σ ρ1 vs os H1 := ⟨F, S1, S2, s1.env, s1.tmp, s1.fr.refl, s1.pin⟩
    refine ⟨fun i n σ H => n = ds.length - i ∧ i ≤ ds.length ∧ ∃ ρi, St k P e' σ ρi vs os H ∧ SOk k P e vs os E D (forGo f body (ds.drop i) ρi), ⟨_, rfl, Nat.zero_le _, ρ1, s1', by simpa using gg⟩, ?_⟩
    rintro i n σ2 H2 ⟨rfl, hi2, ρi, s2, g2⟩
    by_cases hlt : i < ds.length
    · obtain ⟨F2, T1, T2, s2⟩ := s2
      refine .inr ⟨W.goes i F2 H2 hlt s2.fr.f0 s2.fr.fle, fun σ' H' => i + 1 ≤ ds.length ∧ ∃ ρi, St k P e' σ' ρi vs os H' ∧ SOk k P e vs os E D (forGo f body (ds.drop (i + 1)) ρi), fun σ' H' z => ⟨_, ?_, rfl, z.1, z.2⟩, fun x H3 y => ?_⟩
      · omega
      · obtain ⟨F3, x3, rx⟩ := W.yields i F2 H2 x H3 hlt s2.fr.f0 s2.fr.fle y
        rw [List.drop_eq_getElem_cons hlt] at g2
        unfold forGo at g2
        cases e6 : f ds[i] ρi with
        | none => rw [e6] at g2; exact g2.elim
        | some ρ4 =>
          simp only [e6] at g2
          have s3 : St k P e' σ2 ρi (x :: vs) (.fz ds[i] :: os) H3 := ⟨F3, T1, [] ++ T2, s2.push x3 (.fz rx) ⟨.nil, (fun a m => by cases m), (fun a m => by cases m), (fun a m => by cases m)⟩⟩
          refine St.target hg s3 o.l e6 fun σ4 s4 => ?_
          refine hb P e' σ4 ρ4 vs os H3 _ o.r s4 ?_
          cases e7 : body ρ4 with
          | next ρ5 => simp only [e7] at g2; exact fun σ5 H5 s5 => ⟨hlt, ρ5, s5, g2⟩
          | cont ρ5 => simp only [e7] at g2; exact fun σ5 H5 s5 => ⟨hlt, ρ5, s5, g2⟩
          | brk ρ5 => simp only [e7] at g2; exact fun σ5 H5 s5 => g2 σ5 H5 (s5.trans f0)
          | ret o5 ρ5 => simp only [e7] at g2; exact fun σ5 v5 H5 s5 => g2 σ5 v5 H5 (s5.trans f0)
          | exc x5 ρ5 => simp only [e7] at g2; exact fun σ5 c d H5 s5 => g2 σ5 c d H5 (s5.trans f0)
          | bad => simp only [e7] at g2; exact g2
    · have ei : i = ds.length := by omega
      subst ei
      obtain ⟨F2, T1, T2, s2⟩ := s2
      refine .inl ⟨W.stops F2 H2 s2.fr.f0 s2.fr.fle, ?_⟩
      rw [List.drop_length] at g2
      exact g2 σ2 H2 (St.trans f0 ⟨F2, T1, T2, s2⟩)
/-! while -/
def whileN (c : M Bool) (body : MS) : Nat → List O → RS
  | 0, _ => .bad
  | n + 1, ρ => match c ρ with
    | .ok false ρ1 => .next ρ1
    | .ok true ρ1 => match body ρ1 with
      | .next ρ2 => whileN c body n ρ2
      | .cont ρ2 => whileN c body n ρ2
      | .brk ρ2 => .next ρ2
      | .ret o ρ2 => .ret o ρ2
      | .exc x ρ2 => .exc x ρ2
      | .bad => .bad
    | .exc x ρ1 => .exc x ρ1
    | .bad => .bad
theorem whileN_succ {c : M Bool} {body : MS} : ∀ {n : Nat} {ρ : List O}, whileN c body n ρ ≠ .bad → whileN c body (n + 1) ρ = whileN c body n ρ
  | 0, _, h => (h rfl).elim
  | n + 1, ρ, h => by
    unfold whileN at h
    rw [whileN]
    conv => rhs; rw [whileN]
    cases e1 : c ρ with
    | bad => rfl
    | exc x ρ1 => rfl
    | ok b ρ1 =>
      rw [e1] at h
      cases b with
      | false => rfl
      | true =>
        simp only at h ⊢
        cases e2 : body ρ1 with
        | next ρ2 => rw [e2] at h; exact whileN_succ h
        | cont ρ2 => rw [e2] at h; exact whileN_succ h
        | _ => rfl
theorem whileN_le {c : M Bool} {body : MS} {n m : Nat} {ρ : List O} (h : whileN c body n ρ ≠ .bad) (l : n ≤ m) : whileN c body m ρ = whileN c body n ρ := by
  induction l with
  | refl => rfl
  | step l ih => rw [whileN_succ (by rw [ih]; exact h), ih]
open Classical in
noncomputable def sWhile (c : M Bool) (body : MS) : MS := fun ρ => if h : ∃ n, whileN c body n ρ ≠ .bad then whileN c body (choose h) ρ else .bad
theorem sWhile_of {c : M Bool} {body : MS} {n : Nat} {ρ : List O} (h : whileN c body n ρ ≠ .bad) : sWhile c body ρ = whileN c body n ρ := by
  have h' : ∃ n, whileN c body n ρ ≠ .bad := ⟨n, h⟩
  unfold sWhile
  rw [dif_pos h']
  have hc := Classical.choose_spec h'
  rcases Nat.le_total n (Classical.choose h') with l | l
  · exact whileN_le h l
  · exact (whileN_le hc l).symm
theorem sWhile_is {c : M Bool} {body : MS} (ρ : List O) : ∃ n, sWhile c body ρ = whileN c body n ρ := by
  by_cases h : ∃ n, whileN c body n ρ ≠ .bad
  · exact ⟨_, sWhile_of h.choose_spec⟩
  · refine ⟨0, ?_⟩
    unfold sWhile
    rw [dif_neg h]
    rfl
def whileStep (c : M Bool) (body : MS) (k : MS) : MS := fun ρ => match c ρ with
  | .ok false ρ1 => .next ρ1
  | .ok true ρ1 => match body ρ1 with
    | .next ρ2 => k ρ2
    | .cont ρ2 => k ρ2
    | .brk ρ2 => .next ρ2
    | .ret o ρ2 => .ret o ρ2
    | .exc x ρ2 => .exc x ρ2
    | .bad => .bad
  | .exc x ρ1 => .exc x ρ1
  | .bad => .bad
theorem whileN_step {c : M Bool} {body : MS} {n : Nat} {ρ : List O} : whileN c body (n + 1) ρ = whileStep c body (whileN c body n) ρ := by
  rw [whileN, whileStep]
theorem sWhile_eq {c : M Bool} {body : MS} (ρ : List O) : sWhile c body ρ = whileStep c body (sWhile c body) ρ := by
  have key : ∀ n, whileN c body (n + 1) ρ ≠ .bad → whileN c body (n + 1) ρ = whileStep c body (sWhile c body) ρ := by
    intro n h
    rw [whileN_step] at h ⊢
    unfold whileStep at h ⊢
    cases e1 : c ρ with
    | bad => rfl
    | exc x ρ1 => rfl
    | ok b ρ1 =>
      rw [e1] at h
      cases b with
      | false => rfl
      | true =>
        simp only at h ⊢
        cases e2 : body ρ1 with
        | next ρ2 => rw [e2] at h; exact (sWhile_of h).symm
        | cont ρ2 => rw [e2] at h; exact (sWhile_of h).symm
        | _ => rfl
  by_cases h : ∃ n, whileN c body n ρ ≠ .bad
  · obtain ⟨n, h⟩ := h
    have h1 : whileN c body (n + 1) ρ ≠ .bad := by rw [whileN_succ h]; exact h
    rw [sWhile_of h1]
    exact key n h1
  · have hb : sWhile c body ρ = .bad := by unfold sWhile; rw [dif_neg h]
    rw [hb]
    refine Classical.byContradiction fun hn => h ?_
    -- the step ends well: so do finitely many
    unfold whileStep at hn
    cases e1 : c ρ with
    | bad => rw [e1] at hn; exact (hn rfl).elim
    | exc x ρ1 => exact ⟨1, by rw [whileN, e1]; simp⟩
    | ok b ρ1 =>
      rw [e1] at hn
      cases b with
      | false => exact ⟨1, by rw [whileN, e1]; simp⟩
      | true =>
        simp only at hn
        cases e2 : body ρ1 with
        | next ρ2 =>
          rw [e2] at hn
          obtain ⟨n, en⟩ := sWhile_is (c := c) (body := body) ρ2
          refine ⟨n + 1, ?_⟩
          rw [whileN, e1]
          simp only [e2]
          rw [← en]
          exact fun z => hn z.symm
        | cont ρ2 =>
          rw [e2] at hn
          obtain ⟨n, en⟩ := sWhile_is (c := c) (body := body) ρ2
          refine ⟨n + 1, ?_⟩
          rw [whileN, e1]
          simp only [e2]
          rw [← en]
          exact fun z => hn z.symm
        | brk ρ2 => exact ⟨1, by rw [whileN, e1]; simp [e2]⟩
        | ret o ρ2 => exact ⟨1, by rw [whileN, e1]; simp [e2]⟩
        | exc x ρ2 => exact ⟨1, by rw [whileN, e1]; simp [e2]⟩
        | bad => rw [e2] at hn; exact (hn rfl).elim
theorem tsm_while {c : M Bool} {tb : TS} {body : MS} (hc : TTm k E tc c) (hb : TSm k E A tb body) : TSm k E A (tWhile tc tb) (sWhile c body) := by
  intro P e σ ρ vs os H D o s g
  obtain ⟨n, en⟩ := sWhile_is (c := c) (body := body) ρ
  rw [en] at g
  refine ⟨fun n σ H => ∃ ρ, St k P e σ ρ vs os H ∧ SOk k P e vs os E D (whileN c body n ρ), ⟨n, ρ, s, g⟩, ?_⟩
  rintro n σ2 H2 ⟨ρ2, s2, g2⟩
  cases n with
  | zero => exact g2.elim
  | succ n =>
    refine hc P e σ2 ρ2 vs os H2 _ s2 ?_
    rw [whileN] at g2
    cases e1 : c ρ2 with
    | bad => rw [e1] at g2; exact g2
    | exc x ρ3 => rw [e1] at g2; exact g2.exc
    | ok b ρ3 =>
      rw [e1] at g2
      intro H3 s3
      cases b with
      | false => rw [if_neg (by decide)]; exact g2 σ2 H3 s3
      | true =>
        rw [if_pos rfl]
        simp only at g2
        refine ⟨fun σ' H' => ∃ ρ, St k P e σ' ρ vs os H' ∧ SOk k P e vs os E D (whileN c body n ρ), fun σ' H' z => ⟨n, Nat.lt_succ_self n, z⟩, ?_⟩
        refine hb P e σ2 ρ3 vs os H3 _ o s3 ?_
        cases e7 : body ρ3 with
        | next ρ5 => simp only [e7] at g2; exact fun σ5 H5 s5 => ⟨ρ5, s5, g2⟩
        | cont ρ5 => simp only [e7] at g2; exact fun σ5 H5 s5 => ⟨ρ5, s5, g2⟩
        | brk ρ5 => simp only [e7] at g2; exact fun σ5 H5 s5 => g2 σ5 H5 s5
        | ret o5 ρ5 => simp only [e7] at g2; exact fun σ5 v5 H5 s5 => g2 σ5 v5 H5 s5
        | exc x5 ρ5 => simp only [e7] at g2; exact fun σ5 c d H5 s5 => g2 σ5 c d H5 s5
        | bad => simp only [e7] at g2; exact g2
end
end FM
namespace FM
open PySem L2 PyProof.Rows
section
variable {k : Kc} {E : XK} {te : TE} {m m1 m2 : M O} {t u : TS} {a b : MS} {A B : List Nat} {tc : TT}
/-! ### a slot's own thing: taken out, frozen where it lies -/
def mMove (i : Nat) : M O := fun ρ => match qVar i ρ with
  | some o => .ok o (ρ.set i .dead)
  | none => .bad
theorem tem_move {i : Nat} : TEm k E (tVar i) (mMove i) := by
  intro P e σ ρ vs os H Q s g
  unfold mMove at g
  cases e0 : qVar i ρ with
  | none => rw [e0] at g; exact g.elim
  | some o =>
    rw [e0] at g
    obtain ⟨F, S1, S2, env, tmp, fr, pin⟩ := s
    obtain ⟨g1, g2⟩ := qVar_some e0
    obtain ⟨v, T, R, a1, a2, a3, a4⟩ := env.take g1 g2
    refine ⟨v, a1, g v H ⟨F, R, T ++ S2, a3, .cons a2 tmp, Sbp.fr fr (.of_count fun a => ?_), pin⟩⟩
    have c2 := a4.count_eq a
    simp only [List.count_append] at c2 ⊢
    omega
def frzO (i : Nat) (ρ : List O) : List O := match qVar i ρ with
  | some o => match toPD o with
    | some d => ρ.set i (.fz d)
    | none => ρ
  | none => ρ
theorem St.frzS {P : List (Nat × V)} {e : Ent} {σ : L2.St} {ρ : List O} {vs : List V} {os : List O} {H : Hp} {i : Nat} (s : St k P e σ ρ vs os H) : St k P e σ (frzO i ρ) vs os H := by
  unfold frzO
  cases e0 : qVar i ρ with
  | none => exact s
  | some o =>
    simp only
    cases e1 : toPD o with
    | none => exact s
    | some d =>
      simp only
      obtain ⟨F, S1, S2, env, tmp, fr, pin⟩ := s
      obtain ⟨g1, g2⟩ := qVar_some e0
      obtain ⟨v, T, R, a1, a2, a3, a4⟩ := env.take g1 g2
      have s2 : St k P e σ (ρ.set i .dead) (v :: vs) (.fz d :: os) H := by
        refine StW.frz ⟨a3, .cons a2 tmp, Sbp.fr fr (.of_count fun a => ?_), pin⟩ e1
        have c2 := a4.count_eq a
        simp only [List.count_append] at c2 ⊢
        omega
      obtain ⟨F2, U1, U2, s2⟩ := s2
      obtain ⟨r, s3⟩ := s2.top
      obtain ⟨U, m, q⟩ := s3.env.put (i := i) a1 (Own.fz r)
      rw [List.set_set] at q
      exact ⟨F2, U, U2, q, s3.tmp, Sbp.fr s3.fr (.of_count fun a => by
        have := m.count a
        simp only [List.nil_append, List.count_append] at this ⊢
        omega), s3.pin⟩
def mGz (i : Nat) (m : M O) : M O := fun ρ => m (frzO i ρ)
def sGz (i : Nat) (m : MS) : MS := fun ρ => m (frzO i ρ)
theorem tem_gz {i : Nat} (h : TEm k E te m) : TEm k E te (mGz i m) := fun P e σ ρ vs os H Q s g => h P e σ _ vs os H Q s.frzS g
theorem tsm_gz {i : Nat} (h : TSm k E A t a) : TSm k E A t (sGz i a) := fun P e σ ρ vs os H D o s g => h P e σ _ vs os H D o s.frzS g
/-! ### displays, calls of builtins -/
theorem Owns.fzs {F H : Hp} : ∀ {vs : List V} {os : List O} {S : List Addr} {ds : List PD}, Owns k F H vs os S → FM.fzs os = some ds → Reps k.K F vs ds ∧ S = []
  | _, _, _, _, .nil, e => by
    have e' := Option.some.inj e
    subst e'
    exact ⟨.nil, rfl⟩
  | _, _, _, _, .cons (os := os) (T := T) w r, e => by
    cases w with
    | fz w =>
      obtain ⟨z, e1, e2⟩ := Option.map_eq_some_iff.mp (show (FM.fzs os).map _ = some _ from e)
      subst e2
      obtain ⟨h1, h2⟩ := Owns.fzs r e1
      exact ⟨.cons w h1, by rw [h2]; rfl⟩
    | _ => cases e
theorem St.splitFz {P : List (Nat × V)} {e : Ent} {σ : L2.St} {ρ : List O} {ws vs : List V} {xs os : List O} {F H : Hp} {S1 S2 : List Addr} {ds : List PD} (s : StW k P e σ ρ (ws ++ vs) (xs ++ os) F H S1 S2) (hl : ws.length = xs.length) (e1 : fzs xs = some ds) : Reps k.K F ws ds ∧ StW k P e σ ρ vs os F H S1 S2 := by
  obtain ⟨env, tmp, fr, pin⟩ := s
  obtain ⟨A, B, eS, o1, o2⟩ := Owns.split hl tmp
  obtain ⟨r, eA⟩ := o1.fzs e1
  subst eS eA
  exact ⟨r, ⟨env, o2, fr, pin⟩⟩
/-- what is an object of one's own -/
def refO : O → Bool
  | .fz _ => false
  | .dead => false
  | _ => true
theorem Own.refO {k : Kc} {F H : Hp} {v : V} {o : O} {S : List Addr} (w : Own k F H v o S) (h : FM.refO o = true) : ∃ a, v = .ref a := by
  cases w with
  | fz _ => cases h
  | dead => cases h
  | _ => exact ⟨_, rfl⟩
theorem Owns.nogr {k : Kc} {F H : Hp} : ∀ {vs : List V} {os : List O} {S : List Addr}, Owns k F H vs os S → os.any FM.refO = true → ∀ z : List Key, vs ≠ z.map kV
  | _, _, _, .nil, h, _, _ => by cases h
  | _, _, _, .cons w r, h, z, e => by
    cases z with
    | nil => cases e
    | cons x z =>
      rw [List.map_cons] at e
      injection e with e1 e2
      rw [List.any_cons, Bool.or_eq_true] at h
      rcases h with h | h
      · obtain ⟨a, ea⟩ := w.refO h
        rw [ea] at e1
        cases x <;> cases e1
      · exact Owns.nogr r h z e2
def mTup (m : M (List O)) : M O := fun ρ => match m ρ with
  | .ok xs ρ1 => if xs.length ≤ sizeLine then match fzs xs with
      | some ds => .ok (.fz (.tuple ds)) ρ1
      | none => if xs.any refO then .ok (.ntp xs) ρ1 else .bad
    else .bad
  | .exc x ρ1 => .exc x ρ1
  | .bad => .bad
def mLst (m : M (List O)) : M O := fun ρ => match m ρ with
  | .ok xs ρ1 => if xs.length ≤ sizeLine then match fzs xs with
      | some ds => .ok (.lst ds) ρ1
      | none => .ok (.nst xs) ρ1
    else .bad
  | .exc x ρ1 => .exc x ρ1
  | .bad => .bad
theorem StW.pushN {P : List (Nat × V)} {e : Ent} {σ : L2.St} {ρ : List O} {vs : List V} {os : List O} {F H : Hp} {S1 S2 : List Addr} {p : Addr} {ob : HO} {v : V} {o : O} (s : StW k P e σ ρ vs os F H S1 S2) (hp : H p = none) (hn : ∀ o u, ob ≠ .frz o u) (w : Own k F (upd H p ob) v o [p]) : St k P e σ ρ (v :: vs) (o :: os) (upd H p ob) := by
  refine ⟨F, S1, [p] ++ S2, s.push (Xt.own s.fr.fle hp) w ⟨List.nodup_cons.mpr ⟨List.not_mem_nil, .nil⟩, (fun a m => ?_), (fun a m => ?_), (fun a m o u z => ?_)⟩⟩
  · rw [List.mem_singleton.mp m]; exact hp
  · rw [List.mem_singleton.mp m]; exact fle_none s.fr.fle hp
  · rw [List.mem_singleton.mp m, upd_same] at z
    exact hn o u (Option.some.inj z)
theorem StW.nest {P : List (Nat × V)} {e : Ent} {σ : L2.St} {ρ : List O} {ws vs : List V} {xs os : List O} {F H : Hp} {S1 S2 : List Addr} {p : Addr} {ob : HO} {o : O} (s : StW k P e σ ρ (ws ++ vs) (xs ++ os) F H S1 S2) (hl : ws.length = xs.length) (hp : H p = none) (hn : ∀ o u, ob ≠ .frz o u) (hgn : ¬ gnd ob)
    (w : ∀ S, Owns k F (upd H p ob) ws xs S → Own k F (upd H p ob) (.ref p) o (p :: S)) : St k P e σ ρ (.ref p :: vs) (o :: os) (upd H p ob) := by
  have x := Xt.own (o := ob) s.fr.fle hp
  have s2 := s.xt x
  obtain ⟨env, tmp, fr, pin⟩ := s2
  obtain ⟨A, B, eS, o1, o2⟩ := Owns.split hl tmp
  subst eS
  have f2 : Fr e F (upd H p ob) ([p] ++ (S1 ++ (A ++ B))) := s.fr.fresh x ⟨List.nodup_cons.mpr ⟨List.not_mem_nil, .nil⟩, (fun a m => by rw [List.mem_singleton.mp m]; exact hp), (fun a m => by rw [List.mem_singleton.mp m]; exact fle_none s.fr.fle hp), (fun a m o u z => by
    rw [List.mem_singleton.mp m, upd_same] at z
    exact hn o u (Option.some.inj z))⟩ (fun a m => by
    rw [List.mem_singleton.mp m]
    refine ⟨by rw [upd_same]; simp, fun u g z => ?_⟩
    rw [upd_same] at z
    cases z
    exact hgn g)
  refine ⟨F, S1, (p :: A) ++ B, env, .cons (w A o1) o2, Sbp.fr f2 (.of_count fun a => ?_), pin⟩
  simp only [List.count_append, List.count_cons, List.count_nil]
  omega
theorem tem_tup {ta : TA} {as : List (Option Nat)} {m : M (List O)} (h : TAm k E ta as m) : TEm k E (tTup ta) (mTup m) := by
  intro P e σ ρ vs os H Q s g
  refine h P e σ ρ vs os H _ s ?_
  unfold mTup at g
  cases e1 : m ρ with
  | exc x ρ1 => rw [e1] at g; exact g
  | bad => rw [e1] at g; exact g
  | ok xs ρ1 =>
    rw [e1] at g
    simp only at g
    intro ws H1 s1 hl _
    obtain ⟨F, S1, S2, s1⟩ := s1
    split at g
    · rename_i hz
      refine ⟨by rw [hl]; exact hz, fun p hp => ?_⟩
      split at g
      · rename_i ds e2
        obtain ⟨r, s2⟩ := St.splitFz s1 hl e2
        have x2 := Xt.new (o := .tup ws) s2.fr.fle hp
        exact g _ _ ⟨_, S1, [] ++ S2, s2.push x2 (.fz (.tup upd_same (r.sub x2.sub))) ⟨.nil, (fun a m => by cases m), (fun a m => by cases m), (fun a m => by cases m)⟩⟩
      · split at g
        · rename_i hr
          have ng : ∀ z : List Key, ws ≠ z.map kV := by
            obtain ⟨A, B, eS, o1, o2⟩ := Owns.split hl s1.tmp
            exact o1.nogr hr
          exact g _ _ (s1.nest hl hp (fun _ _ z => by cases z) (by rintro ⟨z, e⟩; cases e; exact ng z rfl) fun S w => .ntp upd_same ng w)
        · exact g.elim
    · exact g.elim
theorem tem_lst {ta : TA} {as : List (Option Nat)} {m : M (List O)} (h : TAm k E ta as m) : TEm k E (tLst ta) (mLst m) := by
  intro P e σ ρ vs os H Q s g
  refine h P e σ ρ vs os H _ s ?_
  unfold mLst at g
  cases e1 : m ρ with
  | exc x ρ1 => rw [e1] at g; exact g
  | bad => rw [e1] at g; exact g
  | ok xs ρ1 =>
    rw [e1] at g
    simp only at g
    intro ws H1 s1 hl _
    obtain ⟨F, S1, S2, s1⟩ := s1
    split at g
    · rename_i hz
      refine ⟨by rw [hl]; exact hz, fun p hp => ?_⟩
      split at g
      · rename_i ds e2
        obtain ⟨r, s2⟩ := St.splitFz s1 hl e2
        exact g _ _ (s2.pushN hp (fun _ _ z => by cases z) (.lst (.inl upd_same) r))
      · exact g _ _ (s1.nest hl hp (fun _ _ z => by cases z) (by rintro ⟨z, e⟩; cases e) fun S w => .nst (.inl upd_same) w)
    · exact g.elim
/-- a builtin that is handed frozen data -/
def mCb (f : List O → Option O) (m : M (List O)) : M O := fun ρ => match m ρ with
  | .ok xs ρ1 => match fzs xs with
    | some ds => match f (ds.map .fz) with
      | some (.fz d) => .ok (.fz d) ρ1
      | _ => .bad
    | none => .bad
  | .exc x ρ1 => .exc x ρ1
  | .bad => .bad
def mCbN (f : List O → Option O) (m : M (List O)) : M O := fun ρ => match m ρ with
  | .ok xs ρ1 => match fzs xs with
    | some ds => match f (ds.map .fz) with
      | some o => .ok o ρ1
      | _ => .bad
    | none => .bad
  | .exc x ρ1 => .exc x ρ1
  | .bad => .bad
theorem Reps.vws {F H : Hp} {S : List Addr} : ∀ {vs : List V} {ds : List PD}, Reps k.K F vs ds → Vws k F H S vs (ds.map .fz)
  | _, _, .nil => .nil
  | _, _, .cons h r => .cons (.fz h) (Reps.vws r)
theorem tem_cb {r : List V → Hp → VK → Prop} {f : List O → Option O} {ta : TA} {as : List (Option Nat)} {m : M (List O)} (h : TAm k E ta as m) (hr : CbV k r f) : TEm k E (tCB r ta) (mCb f m) := by
  intro P e σ ρ vs os H Q s g
  refine h P e σ ρ vs os H _ s ?_
  unfold mCb at g
  cases e1 : m ρ with
  | exc x ρ1 => rw [e1] at g; exact g
  | bad => rw [e1] at g; exact g
  | ok xs ρ1 =>
    rw [e1] at g
    simp only at g
    intro ws H1 s1 hl _
    obtain ⟨F, S1, S2, s1⟩ := s1
    split at g
    · rename_i ds e2
      obtain ⟨r1, s2⟩ := St.splitFz s1 hl e2
      split at g
      · rename_i d e3
        exact hr F H1 [] ws _ _ Q s2.fr.fle (fun a m => by cases m) (fun a m => by cases m) r1.vws e3 fun z F' H' x wz => g z H' ⟨F', S1, [] ++ S2, s2.push x (.fz wz.rep) ⟨.nil, (fun a m => by cases m), (fun a m => by cases m), (fun a m => by cases m)⟩⟩
      · exact g.elim
    · exact g.elim
theorem tem_cbN {r : List V → Hp → VK → Prop} {f : List O → Option O} {ta : TA} {as : List (Option Nat)} {m : M (List O)} (h : TAm k E ta as m) (hr : CbN k r f) : TEm k E (tCB r ta) (mCbN f m) := by
  intro P e σ ρ vs os H Q s g
  refine h P e σ ρ vs os H _ s ?_
  unfold mCbN at g
  cases e1 : m ρ with
  | exc x ρ1 => rw [e1] at g; exact g
  | bad => rw [e1] at g; exact g
  | ok xs ρ1 =>
    rw [e1] at g
    simp only at g
    intro ws H1 s1 hl _
    obtain ⟨F, S1, S2, s1⟩ := s1
    split at g
    · rename_i ds e2
      obtain ⟨r1, s2⟩ := St.splitFz s1 hl e2
      split at g
      · rename_i o e3
        exact hr F H1 [] ws _ _ Q s2.fr.fle (fun a m => by cases m) (fun a m => by cases m) r1.vws e3 fun z F' H' T x wz fr => g z H' ⟨F', S1, T ++ S2, s2.push x wz fr⟩
      · exact g.elim
    · exact g.elim
def mUn (f : O → Option O) (m : M O) : M O := fun ρ => match m ρ with
  | .ok (.fz d) ρ1 => match f (.fz d) with
    | some (.fz d') => .ok (.fz d') ρ1
    | _ => .bad
  | .ok _ _ => .bad
  | .exc x ρ1 => .exc x ρ1
  | .bad => .bad
theorem tem_un {r : V → Hp → VK → Prop} {f : O → Option O} (h : TEm k E te m) (hr : UnV k r f) : TEm k E (tUn r te) (mUn f m) := by
  intro P e σ ρ vs os H Q s g
  refine h P e σ ρ vs os H _ s ?_
  unfold mUn at g
  cases e1 : m ρ with
  | exc x ρ1 => rw [e1] at g; exact g
  | bad => rw [e1] at g; exact g
  | ok o ρ1 =>
    rw [e1] at g
    intro v H1 s1
    cases o with
    | fz d =>
      simp only at g
      obtain ⟨F, S1, S2, s1⟩ := s1
      obtain ⟨r1, s2⟩ := s1.top
      split at g
      · rename_i d' e3
        exact hr F H1 [] v _ _ Q s2.fr.fle (fun a m => by cases m) (fun a m => by cases m) (.fz r1) e3 fun z F' H' x wz => g z H' ⟨F', S1, [] ++ S2, s2.push x (.fz wz.rep) ⟨.nil, (fun a m => by cases m), (fun a m => by cases m), (fun a m => by cases m)⟩⟩
      · exact g.elim
    | _ => exact g.elim
/-! ### slices with effects -/
def TOm (k : Kc) (E : XK) (t : TO) (m : M (Option Int)) : Prop := ∀ (P : List (Nat × V)) (e : Ent) (σ : L2.St) (ρ : List O) (vs : List V) (os : List O) (H : Hp) (Q : Option Int → Hp → Prop), St k P e σ ρ vs os H →
  ROk (β := Unit) k P e σ vs os E (fun b ρ' => ∀ H', St k P e σ ρ' vs os H' → Q b H') (m ρ) → t σ H Q
def pNo : M (Option Int) := fun ρ => .ok none ρ
def pPart (m : M O) : M (Option Int) := fun ρ => match m ρ with
  | .ok (.fz (.int i)) ρ1 => .ok (some i) ρ1
  | .ok _ _ => .bad
  | .exc x ρ1 => .exc x ρ1
  | .bad => .bad
theorem tom_no : TOm k E tNoPart pNo := fun P e σ ρ vs os H Q s g => g H s
theorem tom_part (h : TEm k E te m) : TOm k E (tPart te) (pPart m) := by
  intro P e σ ρ vs os H Q s g
  refine h P e σ ρ vs os H _ s ?_
  unfold pPart at g
  cases e1 : m ρ with
  | exc x ρ1 => rw [e1] at g; exact g
  | bad => rw [e1] at g; exact g
  | ok o ρ1 =>
    rw [e1] at g
    intro v H1 s1
    split at g
    · rename_i i ρ2 e2
      cases e2
      obtain ⟨F, S1, S2, s1⟩ := s1
      obtain ⟨r1, s2⟩ := s1.top
      refine ⟨i, ?_, g H1 ⟨F, S1, S2, s2⟩⟩
      cases r1 with
      | int => rfl
      | dic _ _ e => cases e
      | dit _ _ e => cases e
    · exact g.elim
    · rename_i e2; cases e2
    · rename_i e2; cases e2
def mSl (m : M O) (ml mh : M (Option Int)) : M O := fun ρ => match m ρ with
  | .ok (.fz d) ρ1 => match ml ρ1 with
    | .ok lo ρ2 => match mh ρ2 with
      | .ok hi ρ3 => match oSl (.fz d) lo hi with
        | some (.fz d') => .ok (.fz d') ρ3
        | _ => .bad
      | .exc x ρ3 => .exc x ρ3
      | .bad => .bad
    | .exc x ρ2 => .exc x ρ2
    | .bad => .bad
  | .ok _ _ => .bad
  | .exc x ρ1 => .exc x ρ1
  | .bad => .bad
theorem tem_sl {tl th : TO} {ml mh : M (Option Int)} (h : TEm k E te m) (hl : TOm k E tl ml) (hh : TOm k E th mh) : TEm k E (tSl (rSlU k.K) te tl th) (mSl m ml mh) := by
  intro P e σ ρ vs os H Q s g
  refine h P e σ ρ vs os H _ s ?_
  unfold mSl at g
  cases e1 : m ρ with
  | exc x ρ1 => rw [e1] at g; exact g
  | bad => rw [e1] at g; exact g
  | ok o ρ1 =>
    rw [e1] at g
    intro v H1 s1
    cases o with
    | fz d =>
      simp only at g
      refine hl P e σ ρ1 _ _ H1 _ s1 ?_
      cases e2 : ml ρ1 with
      | exc x ρ2 => rw [e2] at g; exact fun c d H' sx => g c d H' sx.pop
      | bad => rw [e2] at g; exact g
      | ok lo ρ2 =>
        rw [e2] at g
        intro H2 s2
        simp only at g
        refine hh P e σ ρ2 _ _ H2 _ s2 ?_
        cases e3 : mh ρ2 with
        | exc x ρ3 => rw [e3] at g; exact fun c d H' sx => g c d H' sx.pop
        | bad => rw [e3] at g; exact g
        | ok hi ρ3 =>
          rw [e3] at g
          intro H3 s3
          simp only at g
          obtain ⟨F, S1, S2, s3⟩ := s3
          obtain ⟨r1, s4⟩ := s3.top
          split at g
          · rename_i d' e4
            -- the quiet slice at a state of one slot
            have key := tev_sl (k := k) (te := tVar 0) (tl := fun _ H Q => Q lo H) (th := fun _ H Q => Q hi H) (qa := qVar 0) (ql := fun _ => some lo) (qh := fun _ => some hi) tev_var (fun F H σ ρ S b Q q e h => by
              have e' := Option.some.inj e
              subst e'
              exact h F H (Xt.refl q.fle)) (fun F H σ ρ S b Q q e h => by
              have e' := Option.some.inj e
              subst e'
              exact h F H (Xt.refl q.fle))
            have := key F H3 [some v] [.fz d] [] (.fz d') Q ⟨s4.fr.fle, by
              have := Envs.cons (k := k) (F := F) (H := H3) (Own.fz r1) Envs.nil
              exact this, fun a m => by cases m⟩ (by
              unfold qSl qVar
              exact e4) fun z F' H' x wz => g z H' ⟨F', S1, [] ++ S2, s4.push x (.fz wz.rep) ⟨.nil, (fun a m => by cases m), (fun a m => by cases m), (fun a m => by cases m)⟩⟩
            obtain ⟨v', hv', this⟩ := this
            have ev : v = v' := Option.some.inj (Option.some.inj (by simpa using hv'))
            subst ev
            exact this
          · exact g.elim
    | _ => exact g.elim
/-! ### a slot's own list changes -/
/-- methods of a list of data -/
def LstM (k : Kc) (r : V → List V → Hp → VK → Prop) (f : List PD → List PD → Option (PD × List PD)) : Prop := ∀ (F H : Hp) (a : Addr) (vs : List V) (ds : List PD) (ws : List V) (xs : List PD) (d : PD) (ds' : List PD) (Q : VK),
  FLe F H → H a = some (.lst vs) → Reps k.K F vs ds → Reps k.K F ws xs → f ds xs = some (d, ds') → (∀ v vs', Reps k.K F vs' ds' → Rep k.K F v d → Q v (upd H a (.lst vs'))) → r (.ref a) ws H Q
def mMt (i : Nat) (f : List PD → List PD → Option (PD × List PD)) (m : M (List O)) : M O := fun ρ => match qVar i ρ with
  | some (.lst _) => match m ρ with
    | .ok xs ρ1 => match fzs xs with
      | some zs => match qVar i ρ1 with
        | some (.lst ds) => match f ds zs with
          | some r => .ok (.fz r.1) (ρ1.set i (.lst r.2))
          | none => .bad
        | _ => .bad
      | none => .bad
    | .exc x ρ1 => .exc x ρ1
    | .bad => .bad
  | _ => .bad
/-- the slot's list, its object, and a change of it -/
theorem StW.lstAt {P : List (Nat × V)} {e : Ent} {σ : L2.St} {ρ : List O} {vs : List V} {os : List O} {F H : Hp} {S1 S2 : List Addr} {i : Nat} {ds : List PD} (s : StW k P e σ ρ vs os F H S1 S2) (e0 : qVar i ρ = some (.lst ds)) :
    ∃ a ws, σ[i]? = some (some (.ref a)) ∧ H a = some (.lst ws) ∧ Reps k.K F ws ds ∧ ∀ ws' ds', Reps k.K F ws' ds' → ∃ U, StW k P e σ (ρ.set i (.lst ds')) vs os F (upd H a (.lst ws')) U S2 := by
  obtain ⟨env, tmp, fr, pin⟩ := s
  obtain ⟨g1, g2⟩ := qVar_some e0
  obtain ⟨v, T, R, a1, a2, a3, a4⟩ := env.take g1 g2
  cases a2 with
  | @lst a ws _ h r =>
    have fr' : Fr e F H (a :: (R ++ S2)) := Sbp.fr fr (.of_count fun b => by
      have c2 := a4.count_eq b
      simp only [List.count_append, List.count_cons, List.count_nil] at c2 ⊢
      omega)
    have ha : H a = some (.lst ws) := by
      rcases h with h | ⟨ob, h⟩
      · exact h
      · exact (fr'.nofz a List.mem_cons_self ob _ h).elim
    refine ⟨a, ws, a1, ha, r, fun ws' ds' r' => ?_⟩
    have nd := List.nodup_cons.mp fr'.nd
    have at_ : ∀ U : List Addr, (∀ b ∈ U, b ∈ R ++ S2) → At U H (upd H a (.lst ws')) := fun U m b mb u z => by
      rw [upd_ne (fun q => nd.1 (by rw [← q]; exact m b mb))]
      exact z
    have fw := fr'.write (a := a) (o := .lst ws') List.mem_cons_self (fun _ _ z => by cases z)
    have env3 := a3.mono (Same.refl F) (at_ R fun b m => List.mem_append_left _ m)
    have tmp3 := tmp.mono (Same.refl F) (at_ S2 fun b m => List.mem_append_right _ m)
    obtain ⟨U, mU, q⟩ := env3.put (i := i) a1 (Own.lst (k := k) (F := F) (.inl upd_same) r')
    rw [List.set_set] at q
    exact ⟨U, q, tmp3, Sbp.fr fw (.of_count fun b => by
      have := mU.count b
      simp only [List.count_append, List.count_cons, List.count_nil] at this ⊢
      omega), pin⟩
theorem tem_mt {i : Nat} {r : V → List V → Hp → VK → Prop} {f : List PD → List PD → Option (PD × List PD)} {ta : TA} {as : List (Option Nat)} {m : M (List O)} (h : TAm k E ta as m) (hr : LstM k r f) : TEm k E (tBM k.K "list" r (tVar i) ta) (mMt i f m) := by
  intro P e σ ρ vs os H Q s g
  unfold mMt at g
  split at g
  · rename_i ds0 e0
    obtain ⟨F0, T1, T2, s0⟩ := id s
    obtain ⟨a, ws, a1, a2, _, _⟩ := s0.lstAt e0
    refine ⟨.ref a, a1, .inl ⟨rfl, ws, .inl (.inl a2)⟩, h P e σ ρ vs os H _ s ?_⟩
    cases e1 : m ρ with
    | exc x ρ1 => rw [e1] at g; exact g
    | bad => rw [e1] at g; exact g
    | ok xs ρ1 =>
      rw [e1] at g
      simp only at g
      intro zs' H1 s1 hl _
      split at g
      · rename_i zs e2
        obtain ⟨F, S1, S2, s1⟩ := s1
        obtain ⟨r1, s2⟩ := St.splitFz s1 hl e2
        split at g
        · rename_i ds e3
          obtain ⟨a', ws2, b1, b2, b3, b4⟩ := s2.lstAt e3
          rw [a1] at b1
          cases b1
          cases e4 : f ds zs with
          | none => rw [e4] at g; exact g.elim
          | some z =>
            rw [e4] at g
            obtain ⟨d, ds'⟩ := z
            refine hr F H1 a ws2 ds zs' zs d ds' Q s2.fr.fle b2 b3 r1 e4 fun v vs' rv rd => ?_
            obtain ⟨U, s5⟩ := b4 vs' ds' rv
            exact g v _ ⟨F, U, [] ++ S2, s5.env, .cons (.fz rd) s5.tmp, s5.fr, s5.pin⟩
        · exact g.elim
      · exact g.elim
  · exact g.elim
def mMt0 (i : Nat) (f : List PD → List PD → Option (PD × List PD)) : M O := fun ρ => match qVar i ρ with
  | some (.lst ds) => match f ds [] with
    | some r => .ok (.fz r.1) (ρ.set i (.lst r.2))
    | none => .bad
  | _ => .bad
theorem tem_mt0 {i : Nat} {r : V → List V → Hp → VK → Prop} {f : List PD → List PD → Option (PD × List PD)} (hr : LstM k r f) : TEm k E (tBM0 k.K "list" r (tVar i)) (mMt0 i f) := by
  intro P e σ ρ vs os H Q s g
  unfold mMt0 at g
  split at g
  · rename_i ds e0
    obtain ⟨F, S1, S2, s0⟩ := s
    obtain ⟨a, ws, a1, a2, b3, b4⟩ := s0.lstAt e0
    refine ⟨.ref a, a1, .inl ⟨rfl, ws, .inl (.inl a2)⟩, ?_⟩
    cases e4 : f ds [] with
    | none => rw [e4] at g; exact g.elim
    | some z =>
      rw [e4] at g
      obtain ⟨d, ds'⟩ := z
      refine hr F H a ws ds [] [] d ds' Q s0.fr.fle a2 b3 .nil e4 fun v vs' rv rd => ?_
      obtain ⟨U, s5⟩ := b4 vs' ds' rv
      exact g v _ ⟨F, U, [] ++ S2, s5.env, .cons (.fz rd) s5.tmp, s5.fr, s5.pin⟩
  · exact g.elim
def fAppend : List PD → List PD → Option (PD × List PD) := fun ds xs => match xs with
  | [x] => if ds.length < sizeLine then some (.none, ds ++ [x]) else none
  | _ => none
theorem lm_append : LstM k rAppend fAppend := by
  intro F H a vs ds ws xs d ds' Q fl ha r rw' e g
  unfold fAppend at e
  split at e
  · rename_i x
    split at e
    · rename_i hz
      have e' := Option.some.inj e
      cases e'
      cases rw' with
      | cons w r2 =>
        cases r2
        exact ⟨a, vs, _, rfl, rfl, ha, by rw [r.length]; exact hz, g _ _ (r.append (.cons w .nil)) .non⟩
    · cases e
  · cases e
def fPop : List PD → List PD → Option (PD × List PD) := fun ds xs => match xs with
  | [] => match ds[ds.length - 1]? with
    | some d => some (d, ds.dropLast)
    | none => none
  | _ => none
theorem lm_pop : LstM k rPop fPop := by
  intro F H a vs ds ws xs d ds' Q fl ha r rw' e g
  unfold fPop at e
  split at e
  · split at e
    · rename_i y hy
      have e' := Option.some.inj e
      cases e'
      cases rw'
      obtain ⟨v, hv, rv⟩ := r.get hy
      exact ⟨a, vs, v, rfl, rfl, ha, by rw [r.length]; exact hv, g _ _ r.dropLast rv⟩
    · cases e
  · cases e
noncomputable def fPopAt : List PD → List PD → Option (PD × List PD) := fun ds xs => match xs with
  | [.int i] => if big62 i then match seqIndex? i ds.length with
      | some j => match ds[j]? with
        | some d => some (d, ds.eraseIdx j)
        | none => none
      | none => none
    else none
  | _ => none
theorem Reps.erase {K : Frag} {F : Hp} : ∀ {vs : List V} {ds : List PD} (n : Nat), Reps K F vs ds → Reps K F (vs.eraseIdx n) (ds.eraseIdx n)
  | _, _, _, .nil => .nil
  | _, _, 0, .cons h r => r
  | _, _, n + 1, .cons h r => .cons h (Reps.erase n r)
theorem lm_popAt : LstM k rPopAt fPopAt := by
  intro F H a vs ds ws xs d ds' Q fl ha r rw' e g
  unfold fPopAt at e
  split at e
  · rename_i i
    split at e
    · rename_i hb
      split at e
      · rename_i j hj
        split at e
        · rename_i y hy
          have e' := Option.some.inj e
          cases e'
          cases rw' with
          | cons w r2 =>
            cases r2
            have ew := (Vw.fz (k := k) (H := F) (S := []) w).int
            subst ew
            obtain ⟨v, hv, rv⟩ := r.get hy
            have b := big62_ok hb
            exact ⟨a, vs, i, j, v, rfl, rfl, ha, by omega, by omega, by rw [r.length]; exact hj, hv, g _ _ (r.erase j) rv⟩
        · cases e
      · cases e
    · cases e
  · cases e
def fRev : List PD → List PD → Option (PD × List PD) := fun ds xs => match xs with
  | [] => some (.none, ds.reverse)
  | _ => none
theorem lm_rev : LstM k rReverse fRev := by
  intro F H a vs ds ws xs d ds' Q fl ha r rw' e g
  unfold fRev at e
  split at e
  · have e' := Option.some.inj e
    cases e'
    cases rw'
    exact ⟨a, vs, rfl, rfl, ha, g _ _ r.reverse .non⟩
  · cases e
def fClear : List PD → List PD → Option (PD × List PD) := fun ds xs => match xs with
  | [] => some (.none, [])
  | _ => none
theorem lm_clear : LstM k rClear fClear := by
  intro F H a vs ds ws xs d ds' Q fl ha r rw' e g
  unfold fClear at e
  split at e
  · have e' := Option.some.inj e
    cases e'
    cases rw'
    exact ⟨a, vs, rfl, rfl, ha, g _ _ .nil .non⟩
  · cases e
/-! ### slot[i] = value -/
def fSetI (ds : List PD) (i d : PD) : Option (List PD) := match i with
  | .int j => (ixN ds.length j).map fun n => ds.set n d
  | _ => none
def sSetI (s : Nat) (qi : QE) (m : M O) : MS := fun ρ => match m ρ with
  | .ok (.fz d) ρ1 => match qVar s ρ1 with
    | some (.lst ds) => match qi ρ1 with
      | some (.fz i) => match fSetI ds i d with
        | some ds' => .next (ρ1.set s (.lst ds'))
        | none => .bad
      | _ => .bad
    | _ => .bad
  | .ok _ _ => .bad
  | .exc x ρ1 => .exc x ρ1
  | .bad => .bad
theorem tsm_setI {s : Nat} {ti : TE} {qi : QE} (h : TEm k E te m) (hi : TEv k ti qi) : TSm k E [] (tAsg te (gSub (tVar s) ti rSetL)) (sSetI s qi m) := by
  intro P e σ ρ vs os H D o st g
  refine h P e σ ρ vs os H _ st ?_
  unfold sSetI at g
  cases e1 : m ρ with
  | exc x ρ1 => rw [e1] at g; exact g.exc
  | bad => rw [e1] at g; exact g
  | ok z ρ1 =>
    rw [e1] at g
    intro v H1 s1
    cases z with
    | fz d =>
      simp only at g
      obtain ⟨F, S1, S2, s1⟩ := s1
      split at g
      · rename_i ds e2
        split at g
        · rename_i i e3
          obtain ⟨a, ws, a1, a2, a3, a4⟩ := s1.lstAt e2
          refine ⟨.ref a, a1, hi F H1 σ ρ1 S1 _ _ s1.qs e3 fun w F2 H2 x2 w2 => ?_⟩
          have s2 := s1.xt x2
          obtain ⟨a', ws2, b1, b2, b3, b4⟩ := s2.lstAt e2
          rw [a1] at b1
          cases b1
          have rd := s2.top.1
          cases e4 : fSetI ds i d with
          | none => rw [e4] at g; exact g.elim
          | some ds' =>
            rw [e4] at g
            unfold fSetI at e4
            split at e4
            · rename_i j
              obtain ⟨n, e5, e6⟩ := Option.map_eq_some_iff.mp e4
              subst e6
              have ew := w2.int
              subst ew
              refine ⟨a, ws2, j, n, rfl, rfl, b2, by rw [b3.length]; exact e5, ?_⟩
              obtain ⟨U, s5⟩ := b4 _ _ (b3.set rd n)
              obtain ⟨_, s6⟩ := s5.top
              exact g σ _ ⟨F2, U, S2, s6⟩
            · cases e4
        · exact g.elim
      · exact g.elim
    | _ => exact g.elim
end
end FM
namespace FM
open PySem PySem.Spec L2 PyProof.Rows
/-! ### room without a guard -/
structure RoomG (k : Nat) (A : Around) : Prop where
  rm : Room k A
  gd : A.guards = some []
theorem RoomG.mono {j k : Nat} {A : Around} (r : RoomG k A) (h : j ≤ k) : RoomG j A := ⟨r.rm.mono h, r.gd⟩
theorem RoomG.deeper {k : Nat} {A : Around} (r : RoomG (k + 1) A) (env : Env) : RoomG k (A.deeper env) := ⟨r.rm.deeper env, r.gd⟩
theorem make_guards {A : Around} {C : Addr} {us : List Value} {kw : List (Str × Value)} (h : A.guards = some []) : (A.under (.builtin "type.__call__" ⟨.ref C :: us, kw⟩)).guards = some [] := by
  first | exact h | (simp [Around.under, Code.weight, Code.isCreation, Code.isGuard, Code.isCaller, Code.frames, Code.isFrame, guardIds, pushGuards, Code.guards, h])
theorem RoomG.make {k : Nat} {A : Around} (r : RoomG (k + 1) A) (C : Addr) (us : List Value) (kw : List (Str × Value)) : RoomG k (A.under (.builtin "type.__call__" ⟨.ref C :: us, kw⟩)) := ⟨r.rm.make C us kw, make_guards r.gd⟩
theorem roomTop {k : Nat} (h : Room k callerA) : RoomG k callerA := ⟨h, rfl⟩
/-- a def's promise where no guard stands -/
structure FnG (P : Program) (w : World) (K : Frag) (mg : Str → Option Value) (base : Heap) (CX : CXT) (k : Nat) (f : Addr) (fd : FuncData) (ps : List Str) (sp : Sp) : Prop where
  len : ∀ vs H Q E, sp vs H Q E → vs.length = ps.length
  run : ∀ (A : Around) (outer : List Env) (s : Shared) (H : Hp) (args : Args) (us : List Value) (vs : List V) (Q : VK) (E : XK), RoomG k A → Env0 P w K mg base A outer s H → BindsTo s fd args (ps.zip us) → Vals vs us → sp vs H Q E →
    codeAny (model P w) A (.call (.ref f) args) (CR CX outer P w H s Q E) s
section
variable {P : Program} {w : World} {K : Frag} {mg : Str → Option Value} {base : Heap} {CX : CXT} {j k : Nat} {f : Addr} {fd : FuncData} {ps : List Str} {sp sp' : Sp}
theorem FnG.mono (F : FnG P w K mg base CX j f fd ps sp) (h : j ≤ k) : FnG P w K mg base CX k f fd ps sp := ⟨F.len, fun A outer s H args us vs Q E hr => F.run A outer s H args us vs Q E (hr.mono h)⟩
theorem FnG.imp (F : FnG P w K mg base CX k f fd ps sp) (h : ∀ vs H Q E, sp' vs H Q E → sp vs H Q E) : FnG P w K mg base CX k f fd ps sp' :=
  ⟨fun vs H Q E q => F.len vs H Q E (h _ _ _ _ q), fun A outer s H args us vs Q E hr he hb hv hs => F.run A outer s H args us vs Q E hr he hb hv (h _ _ _ _ hs)⟩
end
section
variable {X : Cx} {CX : CXT} {k : Nat} {f C : Addr} {fd : FuncData} {ps : List Str} {sp : Sp} {dvs : List V} {ds : List Value} {E : XK} {x m : Str} {p pos apos : Pos} {e o : Expr} {es : List Expr} {ta : TE} {t : TA}
theorem run_fnG {pins : List (Addr × Obj)} {σ : L2.St} {H : Hp} {s : Shared} {Q : VK} {us : List Value} {vs : List V} (F : FnG X.prog X.w X.K X.mg X.base CX k f fd ps sp) (hr : RoomG k X.A) (hb : Binds X.K fd ps ds) (hd : Vals dvs ds) (hx : Passes CX X E)
    (I : Inv X pins σ H s) (r : Vals vs us) (h : sp (vs ++ dvs) H Q E) : wpAny (model X.prog X.w) X.A (call (.ref f) us) (EP X pins σ Q) X.xe s := by
  have r2 := r.append hd
  refine wpAny_call (codeAny_mono (F.run X.A X.stack s H ⟨us, []⟩ (us ++ ds) (vs ++ dvs) Q E hr I.env0 (hb s us I.kIn (by rw [← r2.length]; exact F.len _ _ _ _ h)) r2 h) fun r s' hq => ?_)
  cases r with
  | error e => exact hx pins σ H s e s' I hq
  | ok fl =>
    cases fl with
    | ret u => exact I.after hq
    | _ => exact hq.elim
theorem pe_callG (F : FnG X.prog X.w X.K X.mg X.base CX k f fd ps sp) (hr : RoomG k X.A) (hg : Gl X x) (hm : X.mg x = some (.ref f)) (hk : PySem.W.keepIn X.K (.ref f) = true) (hb : Binds X.K fd ps ds) (hd : Vals dvs ds) (hx : Passes CX X E)
    (ha : PA X (e :: es) t) (hdb : (x == ("__debug__" : Str)) = false := by decide) (he : starEach (e :: es) X.env = (false, eval e X.env) :: starEach es X.env := by rfl) (hpl : (backTo pos (starEach es X.env)).any (·.1) = false := by rfl) :
    PE X (.Call (.Name x p) (e :: es) [] pos) (tCall sp dvs E t) := by
  refine ⟨fun pins s σ H Q I h => wpAny_Call_Name_kw (ld_glob I hg hm ?_ hdb)⟩
  exact PySem.W.callWith_K (h₀ := X.base) I.ok.mod.kin hk (thn (ha.run pos pins s σ H _ I h) fun us s1 ⟨vs, H1, I1, r, q⟩ => ⟨I1.kIn, run_fnG F hr hb hd hx I1 r q⟩) he hpl
theorem pe_call0G (F : FnG X.prog X.w X.K X.mg X.base CX k f fd ps sp) (hr : RoomG k X.A) (hg : Gl X x) (hm : X.mg x = some (.ref f)) (hk : PySem.W.keepIn X.K (.ref f) = true) (hb : Binds X.K fd ps ds) (hd : Vals dvs ds) (hx : Passes CX X E)
    (hdb : (x == ("__debug__" : Str)) = false := by decide) : PE X (.Call (.Name x p) [] [] pos) (tCall sp dvs E tNil) := by
  refine ⟨fun pins s σ H Q I h => wpAny_Call_Name_kw (ld_glob I hg hm ?_ hdb)⟩
  exact PySem.W.callWith_K0 I.kIn hk (run_fnG (us := []) F hr hb hd hx I .nil h)
theorem pe_methG {pl : Sem Bool} (he : PE X o ta) (c : Cls X.K C) (hm : Meth X.K C m f) (F : FnG X.prog X.w X.K X.mg X.base CX k f fd ps sp) (hr : RoomG k X.A) (hb : Binds X.K fd ps ds) (hd : Vals dvs ds) (hx : Passes CX X E) (ha : PA X (e :: es) t)
    (hst : starEach (e :: es) X.env = (false, eval e X.env) :: starEach es X.env := by rfl) (hpl : (backTo pos (starEach es X.env)).any (·.1) = false := by rfl)
    (ht : eval (.Call (.Attribute o m apos) (e :: es) [] pos) X.env = (do
      let ov ← eval o X.env
      standAt apos.atName
      let (f, first) ← holding [ov] (getMethod ov m pl)
      callWith pos f first (backTo pos (starEach (e :: es) X.env)) (backToKw pos (keywordEach [] X.env))) := by rfl) :
    PE X (.Call (.Attribute o m apos) (e :: es) [] pos) (tMeth C m sp dvs E ta t) := by
  refine ⟨fun pins s σ H Q I h => PySem.W.methodCall_KW (pl := pl) (thn (he.run pins s σ H _ I h) fun u s1 ⟨x, H1, I1, rx, a, dx, fs, ex, ea, l, q⟩ => ?_) ht⟩
  subst ex
  obtain rfl : u = Value.ref a := rx
  refine getmeth_ok I1 ea c hm l ?_
  exact PySem.W.callWith_K (first := [.ref a]) (h₀ := X.base) I.ok.mod.kin hm.kp (thn (ha.run pos pins s1 σ H1 _ I1 q) fun us s2 ⟨vs, H2, I2, r, q2⟩ => ⟨I2.kIn, run_fnG (us := .ref a :: us) (vs := .ref a :: vs) F hr hb hd hx I2 (.cons rfl r) q2⟩) hst hpl
theorem pe_meth0G {pl : Sem Bool} (he : PE X o ta) (c : Cls X.K C) (hm : Meth X.K C m f) (F : FnG X.prog X.w X.K X.mg X.base CX k f fd ps sp) (hr : RoomG k X.A) (hb : Binds X.K fd ps ds) (hd : Vals dvs ds) (hx : Passes CX X E)
    (ht : eval (.Call (.Attribute o m apos) [] [] pos) X.env = (do
      let ov ← eval o X.env
      standAt apos.atName
      let (f, first) ← holding [ov] (getMethod ov m pl)
      callWith pos f first (backTo pos (starEach [] X.env)) (backToKw pos (keywordEach [] X.env))) := by rfl) :
    PE X (.Call (.Attribute o m apos) [] [] pos) (tMeth C m sp dvs E ta tNil) := by
  refine ⟨fun pins s σ H Q I h => PySem.W.methodCall_KW (pl := pl) (thn (he.run pins s σ H _ I h) fun u s1 ⟨x, H1, I1, rx, a, dx, fs, ex, ea, l, q⟩ => ?_) ht⟩
  subst ex
  obtain rfl : u = Value.ref a := rx
  exact getmeth_ok I1 ea c hm l (PySem.W.callWith_K0 (first := [.ref a]) I1.kIn hm.kp (run_fnG (us := [.ref a]) (vs := [.ref a]) F hr hb hd hx I1 (.cons rfl .nil) q))
/-- a def of the text where no guard stands -/
theorem FunD.okG {P : Program} {w : World} {K : Frag} {mg : Str → Option Value} {base : Heap} {qual : Str} {params : Arguments} {body : List Stmt} {scope : Scope} {kws : List (Str × V)} {N : List Str} (F : FunD K x qual params body scope dvs kws f fd) (S : FnScope N ps scope) (len : ∀ vs H Q E, sp vs H Q E → vs.length = ps.length)
    (hbody : ∀ (cdv : Value) (A : Around) (outer : List Env) (s : Shared) (H : Hp) (vs : List V) (Q : VK) (E : XK), RoomG k (A.deeper (envOfC qual scope s.heap.objs.size f cdv)) → sp vs H Q E →
      ∃ t, PSs (cxOf CX P w K mg base N qual scope f cdv A outer s H E) body t ∧ t { nx := fun _ H' => Q .non H', rt := Q } (start N vs) H) : FnG P w K mg base CX (k + 1) f fd ps sp := by
  obtain ⟨oc, od, dV, kV, doc, pm, an, cdv, ct, osl, rfl, lk, hcd, _, _⟩ := F.ex
  refine ⟨len, fun A outer s H args us vs Q E hr e0 hb r hsp => ?_⟩
  have KX : K.In s.heap := e0.mod.kin.keeps fun b o e => (e0.bs b o e).1
  have kinds : ∀ y ∈ ps.zip us, scope.names.lookup y.1 = some .local ∨ (scope.names.lookup y.1 = some .cell ∧ ((cellsFrom (s.heap.objs.size + 1) scope.names []).lookup y.1).isSome = true) := fun y hy =>
    (S.par y.1 (List.of_mem_zip (a := y.1) (b := y.2) hy).1).imp id fun q => ⟨q, PySem.W.cellsFrom_some _ _ _ (.inl q)⟩
  refine codeAny_call_function hr.rm.depth (KX _ _ lk) rfl S.co S.gen rfl (PySem.W.codeRec_of KX hcd) (hb _ _ _ _ (wpAny_newFunctionEnv_cells S.kind kinds fun env he s1 x => ?_))
  subst he
  refine ⟨(e0.mod.nolimit.keeps fun b o e => (e0.bs b o e).1).keeps x.toInCall.keep, codeAny_func ?_⟩
  obtain ⟨t, ht, hq⟩ := hbody cdv A outer s H vs Q E (hr.deeper _) hsp
  refine wpAny_mono (ht.run [] s1 (start N vs) H _ (inv_start S hr.rm.hd e0 (len _ _ _ _ hsp) r x) hq) (fun fl s' hs => ?_) fun e s' hs => hs
  cases fl with
  | ret u =>
    obtain ⟨v, σ', H', J, rv, q⟩ := hs
    exact ⟨v, H', J.os, J.bare, J.base, J.hok, rv, q⟩
  | next =>
    obtain ⟨σ', H', J, q⟩ := hs
    exact ⟨.non, H', J.os, J.bare, J.base, J.hok, rfl, q⟩
  | brk =>
    obtain ⟨_, _, _, q⟩ := hs
    exact q.elim
  | cont =>
    obtain ⟨_, _, _, q⟩ := hs
    exact q.elim
/-- a def that lets nothing out -/
theorem FunD.okN {P : Program} {w : World} {K : Frag} {mg : Str → Option Value} {base : Heap} {qual : Str} {params : Arguments} {body : List Stmt} {scope : Scope} {kws : List (Str × V)} {N : List Str} (F : FunD K x qual params body scope dvs kws f fd) (S : FnScope N ps scope) (len : ∀ vs H Q E, sp vs H Q E → vs.length = ps.length)
    (hbody : ∀ (cdv : Value) (A : Around) (outer : List Env) (s : Shared) (H : Hp) (vs : List V) (Q : VK) (E : XK), RoomG k (A.deeper (envOfC qual scope s.heap.objs.size f cdv)) → sp vs H Q E →
      ∃ t, PSs (cxOf CX P w K mg base N qual scope f cdv A outer s H E).nox body t ∧ t { nx := fun _ H' => Q .non H', rt := Q } (start N vs) H) : FnG P w K mg base CX (k + 1) f fd ps sp :=
  FunD.okG F S len fun cdv A outer s H vs Q E hr h => let ⟨t, a, b⟩ := hbody cdv A outer s H vs Q E hr h; ⟨t, a.nox, b⟩
end
end FM
namespace FM
open PySem PySem.Spec L2 PyProof.Rows
/-! ### a def, from its body's mirror -/
def outsE : List Bool → List O → List O
  | [], _ => []
  | b :: bs, o :: ρ => (if b then o else .dead) :: outsE bs ρ
  | _ :: bs, [] => .dead :: outsE bs []
def deadN : Nat → List O
  | 0 => []
  | n + 1 => .dead :: deadN n
/-- more: the slots behind the parameters; io: which parameters are handed back -/
def defM (more : Nat) (io : List Bool) (m : MS) (os : List O) : FR := match m (os ++ deadN more) with
  | .ret o ρ => .ret o (outsE io ρ)
  | .next ρ => .ret (.fz .none) (outsE io ρ)
  | .exc x ρ => .exc x (outsE io ρ)
  | _ => .bad
/-- .. that lets nothing out -/
def defN (more : Nat) (io : List Bool) (m : MS) (os : List O) : FR := match m (os ++ deadN more) with
  | .ret o ρ => .ret o (outsE io ρ)
  | .next ρ => .ret (.fz .none) (outsE io ρ)
  | _ => .bad
def pinsOf : Nat → List Bool → List V → List (Nat × V)
  | i, true :: bs, w :: ws => (i, w) :: pinsOf (i + 1) bs ws
  | i, false :: bs, _ :: ws => pinsOf (i + 1) bs ws
  | _, _, _ => []
def offB (io : List Bool) (A : List Nat) : Bool := A.all fun j => !(io.getD j false)
theorem pins_io : ∀ {io : List Bool} {ws : List V} {i : Nat} {p : Nat × V}, p ∈ pinsOf i io ws → i ≤ p.1 ∧ io.getD (p.1 - i) false = true ∧ ws[p.1 - i]? = some p.2
  | [], _, _, _, m => by cases m
  | true :: bs, [], _, _, m => by cases m
  | false :: bs, [], _, _, m => by cases m
  | true :: bs, w :: ws, i, p, m => by
    rcases List.mem_cons.mp (show p ∈ (i, w) :: pinsOf (i + 1) bs ws from m) with e | m
    · subst e
      simp
    · obtain ⟨h1, h2, h3⟩ := pins_io m
      have e : p.1 - i = (p.1 - (i + 1)) + 1 := by omega
      refine ⟨by omega, ?_, ?_⟩
      · rw [e]; simpa using h2
      · rw [e]; simpa using h3
  | false :: bs, w :: ws, i, p, m => by
    obtain ⟨h1, h2, h3⟩ := pins_io (show p ∈ pinsOf (i + 1) bs ws from m)
    have e : p.1 - i = (p.1 - (i + 1)) + 1 := by omega
    refine ⟨by omega, ?_, ?_⟩
    · rw [e]; simpa using h2
    · rw [e]; simpa using h3
theorem pins_at : ∀ {io : List Bool} {ws : List V} {i j : Nat} {w : V}, io[j]? = some true → ws[j]? = some w → (i + j, w) ∈ pinsOf i io ws
  | [], _, _, _, _, e, _ => by simp at e
  | _ :: _, [], _, _, _, _, e => by simp at e
  | b :: bs, w :: ws, i, 0, w', e1, e2 => by
    have e1' : b = true := by simpa using e1
    have e2' : w = w' := by simpa using e2
    subst e1' e2'
    exact List.mem_cons_self
  | b :: bs, w :: ws, i, j + 1, w', e1, e2 => by
    have := pins_at (i := i + 1) (j := j) (io := bs) (ws := ws) (w := w') (by simpa using e1) (by simpa using e2)
    have e : i + (j + 1) = i + 1 + j := by omega
    rw [e]
    cases b with
    | true => exact List.mem_cons_of_mem _ this
    | false => exact this
theorem off_pins {io : List Bool} {A : List Nat} {ws : List V} (h : offB io A = true) : Off (pinsOf 0 io ws) A := fun p m z => by
  obtain ⟨_, h2, _⟩ := pins_io m
  have := List.all_eq_true.mp h p.1 z
  rw [Nat.sub_zero] at h2
  rw [h2] at this
  cases this
theorem Owns.envs {k : Kc} {F H : Hp} (n : Nat) : ∀ {ws : List V} {os : List O} {S : List Addr}, Owns k F H ws os S → Envs k F H (ws.map some ++ List.replicate n none) (os ++ deadN n) S
  | _, _, _, .nil => by
    show Envs k F H (List.replicate n none) (deadN n) []
    induction n with
    | zero => exact .nil
    | succ n ih =>
      rw [List.replicate_succ]
      exact .dead ih
  | _, _, _, .cons h r => .cons h (Owns.envs n r)
theorem Envs.outs {k : Kc} {F H : Hp} : ∀ {io : List Bool} {ws : List V} {σ : L2.St} {ρ : List O} {S : List Addr}, Envs k F H σ ρ S → io.length = ws.length → (∀ (j : Nat) (w : V), io[j]? = some true → ws[j]? = some w → σ[j]? = some (some w)) → ∃ T : List Addr, T.Sublist S ∧ Owns k F H ws (outsE io ρ) T
  | [], [], _, _, S, _, _, _ => ⟨[], List.nil_sublist S, .nil⟩
  | [], _ :: _, _, _, _, _, e, _ => by cases e
  | _ :: _, [], _, _, _, _, e, _ => by cases e
  | b :: bs, w :: ws, _, _, _, .nil, e, h => by
    obtain ⟨T, m, q⟩ := Envs.outs (io := bs) (ws := ws) (k := k) (F := F) (H := H) .nil (Nat.succ.inj e) fun j w' e1 e2 => by
      have := h (j + 1) w' (by simpa using e1) (by simpa using e2)
      simp at this
    exact ⟨[] ++ T, m, .cons .dead q⟩
  | b :: bs, w :: ws, _, _, _, .dead r, e, h => by
    obtain ⟨T, m, q⟩ := Envs.outs (io := bs) (ws := ws) r (Nat.succ.inj e) fun j w' e1 e2 => by
      have := h (j + 1) w' (by simpa using e1) (by simpa using e2)
      simpa using this
    refine ⟨[] ++ T, m, ?_⟩
    show Owns k F H (w :: ws) ((if b then .dead else .dead) :: outsE bs _) _
    rw [ite_self]
    exact .cons .dead q
  | b :: bs, w :: ws, _, _, _, .cons (v := v) (S := S1) hv r, e, h => by
    obtain ⟨T, m, q⟩ := Envs.outs (io := bs) (ws := ws) r (Nat.succ.inj e) fun j w' e1 e2 => by
      have := h (j + 1) w' (by simpa using e1) (by simpa using e2)
      simpa using this
    cases b with
    | true =>
      have e0 : v = w := by simpa using h 0 w rfl rfl
      subst e0
      exact ⟨S1 ++ T, List.Sublist.append (.refl _) m, .cons hv q⟩
    | false => exact ⟨[] ++ T, m.trans (List.sublist_append_right _ _), .cons .dead q⟩
/-- a body's run from the promise -/
theorem body_ok {k : Kc} {E : XK} {A : List Nat} {t : TS} {m : MS} {N ps : List Str} {io : List Bool} {more : Nat} {ws : List V} {H : Hp} {Q : VK} (ht : TSm k E A t m) (hA : offB io A = true) (hn : N.length = io.length + more) (h : spM k io.length (defM more io m) ws H Q E) : t { nx := fun _ H' => Q .non H', rt := Q } (start N ws) H := by
  obtain ⟨hl, F, os, S, ow, fr, g⟩ := h
  have es : L2.start N ws = ws.map some ++ List.replicate more none := by
    unfold L2.start
    rw [hl, hn, Nat.add_sub_cancel_left]
  rw [es]
  have hpin : ∀ p ∈ pinsOf 0 io ws, (ws.map some ++ List.replicate more none)[p.1]? = some (some p.2) := fun p m => by
    obtain ⟨_, _, h3⟩ := pins_io m
    rw [Nat.sub_zero] at h3
    have hlt : p.1 < ws.length := by
      rcases Nat.lt_or_ge p.1 ws.length with z | z
      · exact z
      · rw [List.getElem?_eq_none z] at h3; cases h3
    rw [List.getElem?_append_left (by simpa using hlt), List.getElem?_map, h3]
    rfl
  have s0 : St k (pinsOf 0 io ws) ⟨F, H, S⟩ (ws.map some ++ List.replicate more none) (os ++ deadN more) [] [] H := ⟨F, S, [], ow.envs more, .nil, by rw [List.append_nil]; exact fr, hpin⟩
  -- what is handed back
  have back : ∀ {σ : L2.St} {ρ : List O} {vs : List V} {xs : List O} {F' H' : Hp} {S1 S2 : List Addr}, StW k (pinsOf 0 io ws) ⟨F, H, S⟩ σ ρ vs xs F' H' S1 S2 → ∃ T, Owns k F' H' ws (outsE io ρ) T ∧ Fr ⟨F, H, S⟩ F' H' (S2 ++ T) := fun {σ ρ vs xs F' H' S1 S2} s => by
    obtain ⟨T, m, q⟩ := s.env.outs (io := io) (ws := ws) hl.symm fun j w e1 e2 => s.pin (j, w) (by
      have := pins_at (i := 0) e1 e2
      rwa [Nat.zero_add] at this)
    refine ⟨T, q, Sbp.fr s.fr (.of_count fun a => ?_)⟩
    have := m.count_le a
    simp only [List.count_append]
    omega
  refine ht _ _ _ _ [] [] H _ (off_pins hA) s0 ?_
  unfold defM at g
  cases e1 : m (os ++ deadN more) with
  | bad => rw [e1] at g; exact g
  | brk ρ => rw [e1] at g; exact g.elim
  | cont ρ => rw [e1] at g; exact g.elim
  | next ρ =>
    rw [e1] at g
    intro σ H' s
    obtain ⟨F', S1, S2, s⟩ := s
    obtain ⟨T, q, f⟩ := back s
    exact g .non H' ⟨F', [] ++ T, .cons (.fz .non) q, f.sub (List.sublist_append_right _ _)⟩
  | ret o ρ =>
    rw [e1] at g
    intro σ v H' s
    obtain ⟨F', S1, S2, s⟩ := s
    obtain ⟨T, q, f⟩ := back s
    cases s.tmp with
    | @cons _ _ _ _ T1 U w r =>
      cases r
      rw [List.append_nil] at f
      exact g v H' ⟨F', T1 ++ T, .cons w q, f⟩
  | exc x ρ =>
    rw [e1] at g
    intro σ c d H' s
    obtain ⟨F', S1, S2, s, xr⟩ := s
    obtain ⟨T, q, f⟩ := back s
    exact g c d H' ⟨F', T, q, f.sub (List.sublist_append_right _ _), xr⟩
theorem FOk.imp {k : Kc} {e : Ent} {ws : List V} {Q : VK} {E E' : XK} {more : Nat} {io : List Bool} {m : MS} {os : List O} (h : FOk k e ws Q E (defN more io m os)) : FOk k e ws Q E' (defM more io m os) := by
  unfold defN at h
  unfold defM
  cases e1 : m (os ++ deadN more) with
  | ret o ρ => rw [e1] at h; exact h
  | next ρ => rw [e1] at h; exact h
  | _ => rw [e1] at h; exact h.elim
theorem body_okN {k : Kc} {A : List Nat} {t : TS} {m : MS} {N ps : List Str} {io : List Bool} {more : Nat} {ws : List V} {H : Hp} {Q : VK} {E E' : XK} (ht : TSm k E' A t m) (hA : offB io A = true) (hn : N.length = io.length + more) (h : spM k io.length (defN more io m) ws H Q E) : t { nx := fun _ H' => Q .non H', rt := Q } (start N ws) H := by
  obtain ⟨hl, F, os, S, ow, fr, g⟩ := h
  exact body_ok (ps := ps) ht hA hn ⟨hl, F, os, S, ow, fr, g.imp⟩
/-! ### a def of the text -/
section
variable {P : Program} {w : World} {K : Frag} {mg : Str → Option Value} {base : Heap} {CX : CXT} {x qual : Str} {params : Arguments} {body : List Stmt} {scope : Scope} {dvs : List V} {kws : List (Str × V)} {f : Addr} {fd : FuncData} {N ps : List Str} {io : List Bool} {more k : Nat} {kc : Kc}
theorem def_okN {m : MS} (F : FunD K x qual params body scope dvs kws f fd) (S : FnScope N ps scope) (hp : io.length = ps.length) (hn : N.length = io.length + more)
    (hbody : ∀ (cdv : Value) (A : Around) (outer : List Env) (s : Shared) (H : Hp) (E : XK), RoomG k (A.deeper (envOfC qual scope s.heap.objs.size f cdv)) →
      ∃ t J, PSs (cxOf CX P w K mg base N qual scope f cdv A outer s H E).nox body t ∧ TSm kc E0 J t m ∧ offB io J = true) : FnG P w K mg base CX (k + 1) f fd ps (spM kc io.length (defN more io m)) := by
  refine FunD.okN F S (fun vs H Q E h => h.1.trans hp) fun cdv A outer s H vs Q E hr h => ?_
  obtain ⟨t, J, h1, h2, h3⟩ := hbody cdv A outer s H E hr
  exact ⟨t, h1, body_okN (ps := ps) h2 h3 hn h⟩
theorem FnG.quiet {n : Nat} {g : List O → FR} (F : FnG P w K mg base CX k f fd ps (spM kc n g)) : FnG P w K mg base CX k f fd ps (spQ kc n (qOf g)) := F.imp fun _ _ _ _ h => h.imp
end
/-! ### the law's end -/
theorem law_callG {P : Program} {w : World} {K : Frag} {mg mb : Str → Option Value} {CX : CXT} {k : Nat} {fa a : Addr} {fd : FuncData} {x : Str} {sp : Sp} {s₁ : Shared} {vs : List Value} {ns : List Int}
    (KX : K.In s₁.heap) (hns : s₁.heap.Ns mainGlobals mg) (hb : s₁.heap.Ns builtinsNs mb) (hbb : ∀ x : Str, x ≠ "__name__" → mb x = bootBuiltins x) (hlim : s₁.heap.NoLimit) (hg : s₁.gens = #[])
    (ha : s₁.heap.get? a = some { cls := .type "list", data := .seq vs.toArray }) (hi : IntsAre vs ns) (hl : ns.length ≤ sizeLine) (hr : Room k callerA)
    (F : ∀ base : Heap, K.In base → base.Ns mainGlobals mg → FnG P w K mg base CX k fa fd [x] sp) (hbind : ∀ (s : Shared) (u : Value), BindsTo s fd ⟨[u], []⟩ [(x, u)])
    (hsp : ∀ H : Hp, Only H → SqL K H a (ns.map V.int) → sp [.ref a] H (fun v _ => v = .bl true) fun _ _ _ => False)
    (hCX : ∀ H e s', CX [] H s₁ (fun _ _ _ => False) e s' → False) :
    codeAny (model P w) callerA (.call (.ref fa) ⟨[.ref a], []⟩) (fun r s' => r = .ok (.ret (.bool true)) ∧ OldK s₁.heap s'.heap ∧ s'.os = s₁.os ∧ AllBare s'.gens) s₁ := by
  have rv := vals_ints hi
  have lenV := hi.length
  -- H: nothing, or the script alone
  have core : ∀ H : Hp, Only H → SqL K H a (ns.map V.int) → HOk P w H s₁.heap → (∀ b, H b ≠ none → b = a ∧ K.lookup a = none) →
      codeAny (model P w) callerA (.call (.ref fa) ⟨[.ref a], []⟩) (fun r s' => r = .ok (.ret (.bool true)) ∧ OldK s₁.heap s'.heap ∧ s'.os = s₁.os ∧ AllBare s'.gens) s₁ := by
    intro H hO hS hok hA
    have other : ∀ {b : Addr}, b ≠ a → H b = none := fun {b} n => by
      cases q : H b with
      | none => rfl
      | some u => exact (n (hA b (by rw [q]; simp)).1).elim
    have nsB : ∀ {b : Addr} {m : Str → Option Value}, s₁.heap.Ns b m → (hidT s₁.heap H).Ns b m := fun {b m} ⟨o, es, ep, e, d, r⟩ => ⟨o, es, ep, hidT_get e (other fun z => by
      subst z
      rw [ha] at e
      cases e
      exact Data.noConfusion (show Data.seq vs.toArray _ = Data.dict es ep from d)), d, r⟩
    have hKb : K.In (hidT s₁.heap H) := fun b o e => hidT_get (KX b o e) (by
      cases q : H b with
      | none => rfl
      | some u =>
        obtain ⟨e1, e2⟩ := hA b (by rw [q]; simp)
        subst e1
        rw [e2] at e
        cases e)
    have hM : Mod K mg (hidT s₁.heap H) := ⟨hKb, nsB hns, ⟨mb, nsB hb, hbb⟩, let ⟨mc, h1, h2⟩ := hlim; ⟨mc, nsB h1, h2⟩⟩
    have e0 : Env0 P w K mg (hidT s₁.heap H) callerA [] s₁ H := ⟨rfl, hM, fun b o e => of_hidT e, Nat.le_of_eq (hidT_size _ _), trivial, fun b z => absurd (show b ∈ ([] : List Addr) from z) (by simp), hok, .of_eq hg⟩
    refine codeAny_mono ((F _ hKb (nsB hns)).run callerA [] s₁ H ⟨[.ref a], []⟩ [.ref a] [.ref a] _ _ (roomTop hr) e0 (hbind s₁ (.ref a)) (.cons rfl .nil) (hsp H hO hS)) fun r s' h => ?_
    cases r with
    | error e => exact (hCX H e s' h).elim
    | ok fl =>
      cases fl with
      | ret u =>
        obtain ⟨v, H', os, bare, un, hok', r', q⟩ := h
        have q' : v = .bl true := q
        subst q'
        obtain rfl : u = Value.bool true := r'
        refine ⟨rfl, OldK.of_keep fun b o e => ?_, os, bare⟩
        rcases hO b with z | ⟨ob, xs, z⟩
        · exact un.keep b o e z (fun m => absurd (show b ∈ ([] : List Addr) from m) (by simp)) (by simp)
        · obtain ⟨e1, _⟩ := hok b _ z
          obtain ⟨e2, _⟩ := hok' b _ (un.frzs b ob _ z)
          rw [e] at e1
          cases e1
          exact e2
      | _ => exact h.elim
  cases hk : K.lookup a with
  | some o =>
    have e := KX a o hk
    rw [ha] at e
    cases e
    exact core (fun _ => none) (fun _ => .inl rfl) (.inr ⟨_, vs.toArray, _, hk, rfl, rfl, rfl, by rw [List.size_toArray, lenV]; exact hl, by simpa using rv⟩) (fun b u z => by cases z) fun b z => absurd rfl z
  | none =>
    let H : Hp := fun b => if b = a then some (.frz { cls := .type "list", data := .seq vs.toArray } (.lst (ns.map V.int))) else none
    have at_ : H a = some (.frz { cls := .type "list", data := .seq vs.toArray } (.lst (ns.map V.int))) := if_pos rfl
    have off : ∀ b, b ≠ a → H b = none := fun b n => if_neg n
    refine core H (fun b => ?_) (.inl (.inr ⟨_, at_⟩)) (fun b u z => ?_) fun b z => ⟨Classical.byContradiction fun n => z (off b n), hk⟩
    · by_cases hb : b = a
      · subst hb
        exact .inr ⟨_, _, at_⟩
      · exact .inl (off b hb)
    · by_cases hb : b = a
      · subst hb
        rw [at_] at z
        cases z
        exact ⟨ha, by rw [List.length_map]; exact hl, vs, _, rv, ha⟩
      · rw [off b hb] at z
        cases z
theorem walk_ofG {l : PySem.W.OpenLaw} {n k : Nat} {q : Program} {loose : List Str} {XP : (Str → Option Value) → Heap → Prop} {YP : World → Heap → Prop} {d : DefRec} {CX : World → CXT} {x : Str}
    (hn : l.most = some n) (hn2 : n ≤ sizeLine) (hdf : d.params.defaults = []) (hr : Room k callerA)
    (F : ∀ (w : World) (mg : Str → Option Value) (fa : Addr) (h : Heap), YP w h → h.Ns mainGlobals mg → mg d.name = some (.ref fa) →
      ∃ (K : Frag) (kc : Kc) (fd : FuncData) (f : List O → FR), K.In h ∧ kc.K = K ∧ (∀ (s : Shared) (u : Value), BindsTo s fd ⟨[u], []⟩ [(x, u)]) ∧
        (∀ ns : List Int, ns.length ≤ n → ∃ outs, f [.fz (.list (ns.map .int))] = .ret (.fz (.bool true)) outs) ∧
        ∀ base : Heap, K.In base → base.Ns mainGlobals mg → FnG l.prog w K mg base (CX w) k fa fd [x] (spM kc 1 f))
    (hCX : ∀ (w : World) (H : Hp) (s : Shared) (e : Value) (s' : Shared), CX w [] H s (fun _ _ _ => False) e s' → False) :
    PySem.W.WalkO q loose XP YP l.row.toRowW d [] (fun f vs => PySem.call f vs) := by
  refine Att.attach_call hn hdf fun w s₀ s₁ mg mb fa o pm cd doc a vs ns G Y ho hd hcd hmg hobj hints hlen hg => ?_
  obtain ⟨K, kc, fd, f, KX, hk, hb, hsp, hF⟩ := F w mg fa _ Y G.T.g hmg
  refine law_callG KX G.T.g G.T.b G.T.builtins G.T.nolimit hg hobj hints (Nat.le_trans hlen hn2) hr hF hb (fun H hO hS => ?_) fun H e s' => hCX w H s₁ e s'
  subst hk
  obtain ⟨outs, e⟩ := hsp ns hlen
  have fle : FLe H H := fun a u e => .inl e
  have repI : ∀ ns : List Int, Reps kc.K H (ns.map V.int) (ns.map .int) := fun ns => by
    induction ns with
    | nil => exact .nil
    | cons i ns ih => exact .cons (.int i) ih
  refine ⟨rfl, H, [.fz (.list (ns.map .int))], [], .cons (S := []) (T := []) (.fz (.lst hS (repI ns))) .nil, ⟨fle, .nil, (fun a m => by cases m), (fun a m => by cases m), (fun a m => by cases m), (fun a m => by cases m), Same.refl _, fun a u z => .inl (by show H a ≠ none; rw [z]; simp), fun _ _ z _ => z, fun _ n => n⟩, ?_⟩
  rw [e]
  intro v H' z
  obtain ⟨F', S', p1, p2⟩ := z
  cases p1 with
  | cons w r =>
    cases w with
    | fz w =>
      cases w with
      | bl => rfl
      | dic _ _ e => cases e
      | dit _ _ e => cases e
end FM
namespace FM
open PySem PySem.Spec L2 PyProof.Rows
/-! ### a list or a tuple that is walked -/
def iAny (K : Frag) (tl : TE) : TI := fun σ H R => tl σ H fun x H1 => ∃ a, x = .ref a ∧ (((∃ xs, SqL K H1 a xs) ∧ R (Itl K a) H1) ∨ ((∃ xs, SqT K H1 a xs) ∧ R (Itt K a) H1))
theorem pi_any {X : Cx} {tg l : Expr} {tl : TE} (hl : PE X l tl) : PI X tg l (iAny X.K tl) := by
  refine ⟨fun pins s σ H R I h => thn (hl.run pins s σ H _ I h) fun v s1 ⟨x, H1, I1, r1, q1⟩ => ?_⟩
  obtain ⟨a, rfl, q1⟩ := q1
  cases r1
  have fp : ∀ b ∈ [s1.heap.objs.size], FpOk X pins H1 b := fun b hb => (List.mem_singleton.mp hb).symm ▸ I1.fpOk (Nat.le_refl _) (I1.hok.fresh (Nat.le_refl _))
  rcases q1 with ⟨⟨xs, hq⟩, q⟩ | ⟨⟨xs, hq⟩, q⟩
  · obtain ⟨its, rv, p, hz⟩ := I1.list hq
    exact wpAny_pyIter_list p.isList ⟨s1.heap.objs.size, [s1.heap.objs.size], _, _, H1, rfl, I1.kept (t' := s1.toks) fun b o e => Heap.get?_push_of_some _ e, turn_list a _, ⟨_, Heap.get?_push_size _ rfl, rfl, rfl⟩, fp, q⟩
  · obtain ⟨its, rv, p, hz⟩ := I1.tuple hq
    exact wpAny_pyIter_tuple (show s1.heap.IsTuple a its.toArray from p) ⟨s1.heap.objs.size, [s1.heap.objs.size], _, _, H1, rfl, I1.kept (t' := s1.toks) fun b o e => Heap.get?_push_of_some _ e, turn_tuple a _, ⟨_, Heap.get?_push_size _ rfl, rfl, rfl⟩, fp, q⟩
def fzA : O → Option (List PD)
  | .fz (.list ds) => some ds
  | .fz (.tuple ds) => some ds
  | .ktp ds => some ds
  | _ => none
def viA : O → Option (List PD)
  | .fz (.list ds) => some ds
  | .fz (.tuple ds) => some ds
  | .ktp ds => some ds
  | .lst ds => some ds
  | _ => none
theorem fzA_or {o : O} {ds : List PD} (e : fzA o = some ds) : fzL o = some ds ∨ seqR o = some ds := by
  unfold fzA at e
  split at e
  · exact .inl e
  · exact .inr e
  · exact .inr e
  · cases e
theorem viA_or {o : O} {ds : List PD} (e : viA o = some ds) : seqL o = some ds ∨ seqR o = some ds := by
  unfold viA at e
  split at e
  · exact .inl e
  · exact .inr e
  · exact .inr e
  · exact .inl e
  · cases e
def qItA (a : QE) : QI := fun ρ => match a ρ with
  | none => none
  | some x => viA x
def qIfA (a : QE) : QI := fun ρ => match a ρ with
  | none => none
  | some x => fzA x
section
variable {k : Kc} {E : XK} {te : TE} {qa : QE} {m : M O}
theorem tiv_any (ha : TEv k te qa) : TIv k (iAny k.K te) (qItA qa) := by
  intro F H σ ρ S ds R q e g
  unfold qItA at e
  cases e1 : qa ρ with
  | none => rw [e1] at e; cases e
  | some x =>
    rw [e1] at e
    refine ha F H σ ρ S x _ q e1 fun v F1 H1 x1 w1 => ?_
    rcases viA_or e with e | e
    · obtain ⟨a, vs, rfl, g1, g2⟩ := w1.seqL x1.fle e
      exact ⟨a, rfl, .inl ⟨⟨vs, g1⟩, g _ F1 H1 x1 (walkD_list (fun F2 H2 p f => ⟨sqL_sub p.ex g1, g2.sub p.sub⟩) g2.length)⟩⟩
    · obtain ⟨a, vs, rfl, g1, g2⟩ := w1.seqR x1.fle e
      exact ⟨a, rfl, .inr ⟨⟨vs, g1⟩, g _ F1 H1 x1 (walkD_tup (fun F2 H2 p f => ⟨sqT_sub p.ex g1, g2.sub p.sub⟩) g2.length)⟩⟩
theorem tif_any (ha : TEv k te qa) : TIf k (iAny k.K te) (qIfA qa) := by
  intro F H σ ρ S ds R q e g
  unfold qIfA at e
  cases e1 : qa ρ with
  | none => rw [e1] at e; cases e
  | some x =>
    rw [e1] at e
    refine ha F H σ ρ S x _ q e1 fun v F1 H1 x1 w1 => ?_
    rcases fzA_or e with e | e
    · obtain ⟨a, vs, rfl, g1, g2⟩ := w1.fzL e
      exact ⟨a, rfl, .inl ⟨⟨vs, sqL_le x1.fle g1⟩, g _ F1 H1 x1 (walkD_list (fun F2 H2 p f => ⟨sqL_le f (sqL_sub p g1), g2.sub p⟩) g2.length)⟩⟩
    · obtain ⟨a, vs, rfl, g1, g2⟩ := w1.fzR e
      exact ⟨a, rfl, .inr ⟨⟨vs, sqT_le x1.fle (g1 F1 (Same.refl _))⟩, g _ F1 H1 x1 (walkD_tup (fun F2 H2 p f => ⟨sqT_le f (g1 F2 p), g2.sub p⟩) g2.length)⟩⟩
def iAnyM (m : M O) : M (List PD) := fun ρ => match m ρ with
  | .ok o ρ1 => match fzA o with
    | some ds => .ok ds ρ1
    | none => .bad
  | .exc x ρ1 => .exc x ρ1
  | .bad => .bad
theorem tim_any (h : TEm k E te m) : TIm k E (iAny k.K te) (iAnyM m) := by
  intro P e σ ρ vs os H R s g
  refine h P e σ ρ vs os H _ s ?_
  unfold iAnyM at g
  cases e1 : m ρ with
  | exc x ρ1 => rw [e1] at g; exact g
  | bad => rw [e1] at g; exact g
  | ok o ρ1 =>
    rw [e1] at g
    intro v H1 s1
    simp only at g
    cases e2 : fzA o with
    | none => rw [e2] at g; exact g.elim
    | some ds =>
      rw [e2] at g
      obtain ⟨F, S1, S2, env, tmp, fr, pin⟩ := s1
      cases tmp with
      | @cons _ _ _ _ T U w r =>
        have s2 : StW k P e σ ρ1 vs os F H1 S1 U := ⟨env, r, fr.sub (List.Sublist.append (.refl _) (List.sublist_append_right _ _)), pin⟩
        have vw : Vw k F H1 T v o := ⟨T, fun _ z => z, w⟩
        rcases fzA_or e2 with e3 | e3
        · obtain ⟨a, vs, rfl, g1, g2⟩ := vw.fzL e3
          exact ⟨a, rfl, .inl ⟨⟨vs, sqL_le fr.fle g1⟩, g _ F H1 S1 U s2 (walkD_list (fun F2 H2 p f => ⟨sqL_le f (sqL_sub p g1), g2.sub p⟩) g2.length)⟩⟩
        · obtain ⟨a, vs, rfl, g1, g2⟩ := vw.fzR e3
          exact ⟨a, rfl, .inr ⟨⟨vs, sqT_le fr.fle (g1 F (Same.refl _))⟩, g _ F H1 S1 U s2 (walkD_tup (fun F2 H2 p f => ⟨sqT_le f (g1 F2 p), g2.sub p⟩) g2.length)⟩⟩
end
/-! ### calls by name -/
theorem RoomG.u1 {k : Nat} {A : Around} (r : RoomG k A) : A.units + 1 < cLine := by have := r.rm.un; omega
theorem RoomG.u64 {k : Nat} {A : Around} (r : RoomG k A) : A.units + 64 < cLine := by have := r.rm.un; omega
theorem RoomG.u65 {k : Nat} {A : Around} (r : RoomG k A) : A.units + 65 < cLine := by have := r.rm.un; omega
theorem RoomG.u68 {k : Nat} {A : Around} (r : RoomG k A) : A.units + 68 < cLine := by have := r.rm.un; omega
abbrev CXg (P : Program) (w : World) : CXT := L2.CX P w
structure CalG (P : Program) (w : World) (K : Frag) (mg : Str → Option Value) (base : Heap) (k : Nat) (x : Str) (sp : Sp) : Prop where
  ex : ∃ (f : Addr) (fd : FuncData) (ps : List Str), FnG P w K mg base (CXg P w) k f fd ps sp ∧ mg x = some (.ref f) ∧ PySem.W.keepIn K (.ref f) = true ∧ Binds K fd ps []
section
variable {P : Program} {w : World} {K : Frag} {mg : Str → Option Value} {base : Heap} {k : Nat} {x : Str}
theorem CalG.quiet {kc : Kc} {n : Nat} {g : List O → FR} (c : CalG P w K mg base k x (spM kc n g)) : CalG P w K mg base k x (spQ kc n (qOf g)) :=
  let ⟨f, fd, ps, F, h⟩ := c.ex
  ⟨f, fd, ps, F.quiet, h⟩
end
section
variable {X : Cx} {j k : Nat} {sp : Sp} {E : XK} {x : Str} {p pos : Pos} {e : Expr} {es : List Expr} {t : TA}
theorem pe_g (c : CalG X.prog X.w X.K X.mg X.base k x sp) (hr : RoomG j X.A) (hk : k ≤ j) (hx : Passes (CXg X.prog X.w) X E) (hg : Gl X x) (ha : PA X (e :: es) t)
    (hdb : (x == ("__debug__" : Str)) = false := by decide) (he : starEach (e :: es) X.env = (false, eval e X.env) :: starEach es X.env := by rfl) (hpl : (backTo pos (starEach es X.env)).any (·.1) = false := by rfl) : PE X (.Call (.Name x p) (e :: es) [] pos) (tCall sp [] E t) := by
  obtain ⟨f, fd, ps, F, hm, kp, b⟩ := c.ex
  exact pe_callG F (hr.mono hk) hg hm kp b .nil hx ha hdb he hpl
theorem pe_g0 (c : CalG X.prog X.w X.K X.mg X.base k x sp) (hr : RoomG j X.A) (hk : k ≤ j) (hx : Passes (CXg X.prog X.w) X E) (hg : Gl X x)
    (hdb : (x == ("__debug__" : Str)) = false := by decide) : PE X (.Call (.Name x p) [] [] pos) (tCall sp [] E tNil) := by
  obtain ⟨f, fd, ps, F, hm, kp, b⟩ := c.ex
  exact pe_call0G F (hr.mono hk) hg hm kp b .nil hx hdb
end
theorem qlen_nil (ρ os : List O) (e : qNil ρ = some os) : os.length = 0 := by
  have e' := Option.some.inj e
  rw [← e']
  rfl
theorem qlen_cons {a : QE} {r : List O → Option (List O)} {n : Nat} (h : ∀ ρ os, r ρ = some os → os.length = n) (ρ os : List O) (e : qCons a r ρ = some os) : os.length = n + 1 := by
  unfold qCons at e
  split at e
  · cases e
  · split at e
    · cases e
    · rename_i e2
      have e' := Option.some.inj e
      rw [← e', List.length_cons, h _ _ e2]
theorem cx_none {P : Program} {w : World} (H : Hp) (s : Shared) (e : Value) (s' : Shared) (h : CXg P w [] H s E0 e s') : False := by
  obtain ⟨_, _, _, _, _, _, _, _, _, _, _, _, z⟩ := h
  exact z
end FM
namespace FM
open PySem PySem.Spec L2 PyProof.Rows
/-! ### what a mirror comes to -/
def wM {α : Type} (r : R α) (Q : α → List O → Prop) : Prop := match r with
  | .ok a ρ => Q a ρ
  | _ => False
def wS (r : RS) (nx : List O → Prop) (rt : O → List O → Prop) (bk ct : List O → Prop) : Prop := match r with
  | .next ρ => nx ρ
  | .ret o ρ => rt o ρ
  | .brk ρ => bk ρ
  | .cont ρ => ct ρ
  | _ => False
def wF (r : FR) (Q : O → List O → Prop) : Prop := match r with
  | .ret o outs => Q o outs
  | _ => False
section
variable {ρ : List O} {Q : O → List O → Prop} {nx bk ct : List O → Prop} {rt : O → List O → Prop} {q : QE} {m m1 m2 : M O} {c : M Bool} {a b : MS} {QB : Bool → List O → Prop} {QL : List O → List O → Prop} {ml : M (List O)}
@[simp] theorem wM_ok {α : Type} {x : α} {Q : α → List O → Prop} : wM (.ok x ρ) Q = Q x ρ := rfl
@[simp] theorem wM_lift : wM (mLift q ρ) Q = ∃ d, q ρ = some (.fz d) ∧ Q (.fz d) ρ := by
  unfold mLift
  apply propext
  split
  · rename_i d e
    exact ⟨fun h => ⟨d, e, h⟩, fun ⟨d', e', h⟩ => by rw [e] at e'; cases e'; exact h⟩
  · rename_i hn
    exact ⟨fun h => h.elim, fun ⟨d', e', h⟩ => (hn d' e').elim⟩
@[simp] theorem wM_new : wM (mNew q ρ) Q = ∃ o, q ρ = some o ∧ Q o ρ := by
  unfold mNew
  cases e : q ρ <;> simp [wM]
@[simp] theorem wM_frz : wM (frzM m ρ) Q = wM (m ρ) fun o ρ1 => ∃ d, toPD o = some d ∧ Q (.fz d) ρ1 := by
  unfold frzM
  cases e : m ρ with
  | ok o ρ1 =>
    simp only [wM_ok]
    cases e2 : toPD o <;> simp [wM]
  | _ => rfl
@[simp] theorem wM_move {i : Nat} : wM (mMove i ρ) Q = ∃ o, qVar i ρ = some o ∧ Q o (ρ.set i .dead) := by
  unfold mMove
  cases e : qVar i ρ <;> simp [wM]
@[simp] theorem wM_gz {i : Nat} : wM (mGz i m ρ) Q = wM (m (frzO i ρ)) Q := rfl
@[simp] theorem wS_gz {i : Nat} : wS (sGz i a ρ) nx rt bk ct = wS (a (frzO i ρ)) nx rt bk ct := rfl
@[simp] theorem wM_op {f : O → O → Option O} : wM (mOp f m1 m2 ρ) Q = wM (m1 ρ) fun o1 ρ1 => ∃ d1, o1 = .fz d1 ∧ wM (m2 ρ1) fun o2 ρ2 => ∃ d2, o2 = .fz d2 ∧ ∃ d, f (.fz d1) (.fz d2) = some (.fz d) ∧ Q (.fz d) ρ2 := by
  unfold mOp
  cases e : m1 ρ with
  | ok o ρ1 =>
    cases o with
    | fz d1 =>
      simp only [wM_ok]
      cases e2 : m2 ρ1 with
      | ok o2 ρ2 =>
        cases o2 with
        | fz d2 =>
          cases e3 : f (.fz d1) (.fz d2) with
          | none => simp [wM, e2, e3]
          | some z => cases z <;> simp [wM, e2, e3]
        | _ => simp [wM, e2]
      | _ => simp [wM, e2]
    | _ => simp [wM]
  | _ => simp [wM]
@[simp] theorem wM_opV {f : O → O → Option O} : wM (mOpV f m1 q ρ) Q = wM (m1 ρ) fun o1 ρ1 => ∃ d1, o1 = .fz d1 ∧ ∃ o2, q ρ1 = some o2 ∧ ∃ d, f (.fz d1) o2 = some (.fz d) ∧ Q (.fz d) ρ1 := by
  unfold mOpV
  cases e : m1 ρ with
  | ok o ρ1 =>
    cases o with
    | fz d1 =>
      cases e2 : q ρ1 with
      | none => simp [wM, e2]
      | some o2 =>
        cases e3 : f (.fz d1) o2 with
        | none => simp [wM, e2, e3]
        | some z => cases z <;> simp [wM, e2, e3]
    | _ => simp [wM]
  | _ => simp [wM]
@[simp] theorem wM_opS {f : O → O → Option O} {i : Nat} : wM (mOpS f i m2 ρ) Q = ((∃ o0, qVar i ρ = some o0) ∧ wM (m2 ρ) fun o2 ρ1 => ∃ d2, o2 = .fz d2 ∧ ∃ o1, qVar i ρ1 = some o1 ∧ ∃ d, f o1 (.fz d2) = some (.fz d) ∧ Q (.fz d) ρ1) := by
  unfold mOpS
  cases e0 : qVar i ρ with
  | none => simp [wM]
  | some o0 =>
    cases e : m2 ρ with
    | ok o ρ1 =>
      cases o with
      | fz d2 =>
        cases e2 : qVar i ρ1 with
        | none => simp [wM, e2]
        | some o1 =>
          cases e3 : f o1 (.fz d2) with
          | none => simp [wM, e2, e3]
          | some z => cases z <;> simp [wM, e2, e3]
      | _ => simp [wM]
    | _ => simp [wM]
@[simp] theorem wM_un {f : O → Option O} : wM (mUn f m ρ) Q = wM (m ρ) fun o1 ρ1 => ∃ d1, o1 = .fz d1 ∧ ∃ d, f (.fz d1) = some (.fz d) ∧ Q (.fz d) ρ1 := by
  unfold mUn
  cases e : m ρ with
  | ok o ρ1 =>
    cases o with
    | fz d1 =>
      cases e3 : f (.fz d1) with
      | none => simp [wM, e3]
      | some z => cases z <;> simp [wM, e3]
    | _ => simp [wM]
  | _ => simp [wM]
@[simp] theorem wM_if : wM (mIf c m1 m2 ρ) Q = wM (c ρ) fun t ρ1 => (t = true → wM (m1 ρ1) Q) ∧ (t = false → wM (m2 ρ1) Q) := by
  unfold mIf
  cases e : c ρ with
  | ok t ρ1 => cases t <;> simp
  | _ => rfl
@[simp] theorem wM_and : wM (mAnd m1 m2 ρ) Q = wM (m1 ρ) fun o ρ1 => ∃ t, o = .fz (.bool t) ∧ (t = true → wM (m2 ρ1) Q) ∧ (t = false → Q (.fz (.bool false)) ρ1) := by
  unfold mAnd
  cases e : m1 ρ with
  | ok o ρ1 =>
    cases o with
    | fz d =>
      cases d with
      | bool t => cases t <;> simp
      | _ => simp [wM]
    | _ => simp [wM]
  | _ => rfl
@[simp] theorem wM_or : wM (mOr m1 m2 ρ) Q = wM (m1 ρ) fun o ρ1 => ∃ t, o = .fz (.bool t) ∧ (t = false → wM (m2 ρ1) Q) ∧ (t = true → Q (.fz (.bool true)) ρ1) := by
  unfold mOr
  cases e : m1 ρ with
  | ok o ρ1 =>
    cases o with
    | fz d =>
      cases d with
      | bool t => cases t <;> simp
      | _ => simp [wM]
    | _ => simp [wM]
  | _ => rfl
@[simp] theorem wM_not : wM (mNot m ρ) Q = wM (m ρ) fun o ρ1 => ∃ t, o = .fz (.bool t) ∧ Q (.fz (.bool (!t))) ρ1 := by
  unfold mNot
  cases e : m ρ with
  | ok o ρ1 =>
    cases o with
    | fz d =>
      cases d with
      | bool t => cases t <;> simp
      | _ => simp [wM]
    | _ => simp [wM]
  | _ => rfl
@[simp] theorem wM_bLift {q : List O → Option Bool} : wM (bLift q ρ) QB = ∃ t, q ρ = some t ∧ QB t ρ := by
  unfold bLift
  cases e : q ρ <;> simp [wM]
@[simp] theorem wM_bTest : wM (bTest m ρ) QB = wM (m ρ) fun o ρ1 => ∃ t, o = .fz (.bool t) ∧ QB t ρ1 := by
  unfold bTest
  cases e : m ρ with
  | ok o ρ1 =>
    cases o with
    | fz d =>
      cases d with
      | bool t => cases t <;> simp
      | _ => simp [wM]
    | _ => simp [wM]
  | _ => rfl
@[simp] theorem wM_bAnd {d : M Bool} : wM (bAnd c d ρ) QB = wM (c ρ) fun t ρ1 => (t = true → wM (d ρ1) QB) ∧ (t = false → QB false ρ1) := by
  unfold bAnd
  cases e : c ρ with
  | ok t ρ1 => cases t <;> simp
  | _ => rfl
@[simp] theorem wM_bOr {d : M Bool} : wM (bOr c d ρ) QB = wM (c ρ) fun t ρ1 => (t = false → wM (d ρ1) QB) ∧ (t = true → QB true ρ1) := by
  unfold bOr
  cases e : c ρ with
  | ok t ρ1 => cases t <;> simp
  | _ => rfl
@[simp] theorem wM_bNot : wM (bNot c ρ) QB = wM (c ρ) fun t ρ1 => QB (!t) ρ1 := by
  unfold bNot
  cases e : c ρ <;> rfl
@[simp] theorem wM_nil : wM (mNil ρ) QL = QL [] ρ := rfl
@[simp] theorem wM_cons : wM (mCons m ml ρ) QL = wM (m ρ) fun o ρ1 => wM (ml ρ1) fun xs ρ2 => QL (o :: xs) ρ2 := by
  unfold mCons
  cases e : m ρ with
  | ok o ρ1 =>
    simp only [wM_ok]
    cases e2 : ml ρ1 <;> rfl
  | _ => rfl
@[simp] theorem wM_ref {i : Nat} : wM (mRef i ml ρ) QL = ((∃ o, qVar i ρ = some o) ∧ wM (ml ρ) fun xs ρ2 => QL (.dead :: xs) ρ2) := by
  unfold mRef
  cases e : qVar i ρ with
  | none => simp [wM]
  | some o =>
    cases e2 : ml ρ <;> simp [wM]
@[simp] theorem wM_call {f : List O → FR} {as : List (Option Nat)} : wM (mCall f as ml ρ) Q = wM (ml ρ) fun xs ρ1 => match fillA as xs ρ1 with
    | some z => wF (f z.1) fun o outs => Q o (backA as outs z.2)
    | none => False := by
  unfold mCall
  cases e : ml ρ with
  | ok xs ρ1 =>
    simp only [wM_ok]
    cases e2 : fillA as xs ρ1 with
    | none => simp [wM]
    | some z =>
      simp only
      cases e3 : f z.1 <;> simp [wM, wF, e3]
  | _ => rfl
@[simp] theorem refO_fz {d : PD} : refO (.fz d) = false := rfl
@[simp] theorem refO_lst {ds : List PD} : refO (.lst ds) = true := rfl
@[simp] theorem refO_dic {ds : List (Key × PD)} : refO (.dic ds) = true := rfl
@[simp] theorem refO_dit {ds : List (List Key × PD)} : refO (.dit ds) = true := rfl
@[simp] theorem refO_nst {ds : List O} : refO (.nst ds) = true := rfl
@[simp] theorem refO_ntp {ds : List O} : refO (.ntp ds) = true := rfl
@[simp] theorem refO_ndc {ds : List (Key × O)} : refO (.ndc ds) = true := rfl
@[simp] theorem refO_ins {c : Nat} {ds : List (Str × O)} : refO (.ins c ds) = true := rfl
@[simp] theorem wM_tup : wM (mTup ml ρ) Q = wM (ml ρ) fun xs ρ1 => xs.length ≤ sizeLine ∧ match fzs xs with
    | some ds => Q (.fz (.tuple ds)) ρ1
    | none => xs.any refO = true ∧ Q (.ntp xs) ρ1 := by
  unfold mTup
  cases e : ml ρ with
  | ok xs ρ1 =>
    simp only [wM_ok]
    split
    · rename_i h
      cases e2 : fzs xs with
      | some ds => simp [h]
      | none =>
        by_cases hr : xs.any refO = true
        · simp [h, hr]
        · simp only [hr, if_false]
          simp [wM]
    · rename_i h
      simp [wM, h]
  | _ => rfl
@[simp] theorem wM_lst : wM (mLst ml ρ) Q = wM (ml ρ) fun xs ρ1 => xs.length ≤ sizeLine ∧ match fzs xs with
    | some ds => Q (.lst ds) ρ1
    | none => Q (.nst xs) ρ1 := by
  unfold mLst
  cases e : ml ρ with
  | ok xs ρ1 =>
    simp only [wM_ok]
    split
    · rename_i h
      cases e2 : fzs xs <;> simp [h]
    · rename_i h
      simp [wM, h]
  | _ => rfl
@[simp] theorem wM_cb {f : List O → Option O} : wM (mCb f ml ρ) Q = wM (ml ρ) fun xs ρ1 => ∃ ds, fzs xs = some ds ∧ ∃ d, f (ds.map .fz) = some (.fz d) ∧ Q (.fz d) ρ1 := by
  unfold mCb
  cases e : ml ρ with
  | ok xs ρ1 =>
    simp only [wM_ok]
    cases e2 : fzs xs with
    | none => simp [wM]
    | some ds =>
      cases e3 : f (ds.map .fz) with
      | none => simp [wM, e3]
      | some z => cases z <;> simp [wM, e3]
  | _ => rfl
@[simp] theorem wM_cbN {f : List O → Option O} : wM (mCbN f ml ρ) Q = wM (ml ρ) fun xs ρ1 => ∃ ds, fzs xs = some ds ∧ ∃ o, f (ds.map .fz) = some o ∧ Q o ρ1 := by
  unfold mCbN
  cases e : ml ρ with
  | ok xs ρ1 =>
    simp only [wM_ok]
    cases e2 : fzs xs with
    | none => simp [wM]
    | some ds => cases e3 : f (ds.map .fz) <;> simp [wM, e3]
  | _ => rfl
@[simp] theorem wM_pNo {Q : Option Int → List O → Prop} : wM (pNo ρ) Q = Q none ρ := rfl
@[simp] theorem wM_pPart {Q : Option Int → List O → Prop} : wM (pPart m ρ) Q = wM (m ρ) fun o ρ1 => ∃ i, o = .fz (.int i) ∧ Q (some i) ρ1 := by
  unfold pPart
  cases e : m ρ with
  | ok o ρ1 =>
    cases o with
    | fz d =>
      cases d with
      | int t => simp
      | _ => simp [wM]
    | _ => simp [wM]
  | _ => rfl
@[simp] theorem wM_sl {pl ph : M (Option Int)} : wM (mSl m pl ph ρ) Q = wM (m ρ) fun o ρ1 => ∃ d, o = .fz d ∧ wM (pl ρ1) fun lo ρ2 => wM (ph ρ2) fun hi ρ3 => ∃ d', oSl (.fz d) lo hi = some (.fz d') ∧ Q (.fz d') ρ3 := by
  unfold mSl
  cases e : m ρ with
  | ok o ρ1 =>
    cases o with
    | fz d =>
      simp only [wM_ok]
      cases e2 : pl ρ1 with
      | ok lo ρ2 =>
        simp only [wM_ok]
        cases e3 : ph ρ2 with
        | ok hi ρ3 =>
          cases e4 : oSl (.fz d) lo hi with
          | none => simp [wM, e2, e3, e4]
          | some z => cases z <;> simp [wM, e2, e3, e4]
        | _ => simp [wM, e2, e3]
      | _ => simp [wM, e2]
    | _ => simp [wM]
  | _ => rfl
@[simp] theorem wM_mt {i : Nat} {f : List PD → List PD → Option (PD × List PD)} : wM (mMt i f ml ρ) Q = ((∃ ds, qVar i ρ = some (.lst ds)) ∧ wM (ml ρ) fun xs ρ1 => ∃ zs, fzs xs = some zs ∧ ∃ ds, qVar i ρ1 = some (.lst ds) ∧ ∃ d ds', f ds zs = some (d, ds') ∧ Q (.fz d) (ρ1.set i (.lst ds'))) := by
  unfold mMt
  cases e0 : qVar i ρ with
  | none => simp [wM]
  | some o0 =>
    cases o0 with
    | lst ds0 =>
      cases e : ml ρ with
      | ok xs ρ1 =>
        simp only [wM_ok]
        cases e2 : fzs xs with
        | none => simp [wM]
        | some zs =>
          simp only
          cases e3 : qVar i ρ1 with
          | none => simp [wM, e3]
          | some o1 =>
            cases o1 with
            | lst ds =>
              cases e4 : f ds zs with
              | none => simp [wM, e3, e4]
              | some r => obtain ⟨d, ds'⟩ := r; simp [wM, e3, e4]; exact ⟨fun h => ⟨d, ds', ⟨rfl, rfl⟩, h⟩, fun ⟨_, _, ⟨e1, e2⟩, h⟩ => by rw [e1, e2]; exact h⟩
            | _ => simp [wM, e3]
      | _ => simp [wM]
    | _ => simp [wM]
@[simp] theorem wM_mt0 {i : Nat} {f : List PD → List PD → Option (PD × List PD)} : wM (mMt0 i f ρ) Q = ∃ ds, qVar i ρ = some (.lst ds) ∧ ∃ d ds', f ds [] = some (d, ds') ∧ Q (.fz d) (ρ.set i (.lst ds')) := by
  unfold mMt0
  cases e0 : qVar i ρ with
  | none => simp [wM]
  | some o0 =>
    cases o0 with
    | lst ds =>
      cases e4 : f ds [] with
      | none => simp [wM, e4]
      | some r => obtain ⟨d, ds'⟩ := r; simp [wM, e4]; exact ⟨fun h => ⟨d, ds', ⟨rfl, rfl⟩, h⟩, fun ⟨_, _, ⟨e1, e2⟩, h⟩ => by rw [e1, e2]; exact h⟩
    | _ => simp [wM]
@[simp] theorem wM_iLift {q : QI} {Q : List PD → List O → Prop} : wM (iLift q ρ) Q = ∃ ds, q ρ = some ds ∧ Q ds ρ := by
  unfold iLift
  cases e : q ρ <;> simp [wM]
@[simp] theorem wM_iAnyM {Q : List PD → List O → Prop} : wM (iAnyM m ρ) Q = wM (m ρ) fun o ρ1 => ∃ ds, fzA o = some ds ∧ Q ds ρ1 := by
  unfold iAnyM
  cases e : m ρ with
  | ok o ρ1 => cases e2 : fzA o <;> simp [wM, e2]
  | _ => rfl
/-! statements -/
@[simp] theorem wS_next : wS (sNext ρ) nx rt bk ct = nx ρ := rfl
theorem wS_seq : wS (sSeq a b ρ) nx rt bk ct = wS (a ρ) (fun ρ1 => wS (b ρ1) nx rt bk ct) rt bk ct := by
  unfold sSeq
  cases e : a ρ <;> rfl
@[simp] theorem wS_drop : wS (sDrop m ρ) nx rt bk ct = wM (m ρ) fun _ ρ1 => nx ρ1 := by
  unfold sDrop
  cases e : m ρ <;> rfl
@[simp] theorem wS_ret : wS (sRet m ρ) nx rt bk ct = wM (m ρ) rt := by
  unfold sRet
  cases e : m ρ <;> rfl
@[simp] theorem wS_retN : wS (sRetN ρ) nx rt bk ct = rt (.fz .none) ρ := rfl
@[simp] theorem wS_brk : wS (sBrk ρ) nx rt bk ct = bk ρ := rfl
@[simp] theorem wS_cont : wS (sCont ρ) nx rt bk ct = ct ρ := rfl
@[simp] theorem wS_set {j : Nat} : wS (sSet j m ρ) nx rt bk ct = wM (m ρ) fun o ρ1 => nx (ρ1.set j o) := by
  unfold sSet
  cases e : m ρ <;> rfl
@[simp] theorem wS_asg {f : QG} : wS (sAsg f m ρ) nx rt bk ct = wM (m ρ) fun o ρ1 => ∃ d, o = .fz d ∧ ∃ ρ2, f d ρ1 = some ρ2 ∧ nx ρ2 := by
  unfold sAsg
  cases e : m ρ with
  | ok o ρ1 =>
    cases o with
    | fz d => cases e2 : f d ρ1 <;> simp [wS, e2]
    | _ => simp [wS]
  | _ => rfl
@[simp] theorem wS_par {i j : Nat} : wS (sPar i j ml ρ) nx rt bk ct = wM (ml ρ) fun xs ρ1 => match xs with
    | [o1, o2] => nx ((ρ1.set i o1).set j o2)
    | _ => False := by
  unfold sPar
  cases e : ml ρ with
  | ok xs ρ1 =>
    match xs with
    | [] => simp [wS]
    | [_] => simp [wS]
    | [o1, o2] => simp [wS]
    | _ :: _ :: _ :: _ => simp [wS]
  | _ => rfl
@[simp] theorem wS_par3 {i j l : Nat} : wS (sPar3 i j l ml ρ) nx rt bk ct = wM (ml ρ) fun xs ρ1 => match xs with
    | [o1, o2, o3] => nx (((ρ1.set i o1).set j o2).set l o3)
    | _ => False := by
  unfold sPar3
  cases e : ml ρ with
  | ok xs ρ1 =>
    match xs with
    | [] => simp [wS]
    | [_] => simp [wS]
    | [_, _] => simp [wS]
    | [o1, o2, o3] => simp [wS]
    | _ :: _ :: _ :: _ :: _ => simp [wS]
  | _ => rfl
@[simp] theorem wS_if : wS (sIf c a b ρ) nx rt bk ct = wM (c ρ) fun t ρ1 => (t = true → wS (a ρ1) nx rt bk ct) ∧ (t = false → wS (b ρ1) nx rt bk ct) := by
  unfold sIf
  cases e : c ρ with
  | ok t ρ1 => cases t <;> simp
  | _ => rfl
@[simp] theorem wS_setI {s : Nat} {qi : QE} : wS (sSetI s qi m ρ) nx rt bk ct = wM (m ρ) fun o ρ1 => ∃ d, o = .fz d ∧ ∃ ds, qVar s ρ1 = some (.lst ds) ∧ ∃ i, qi ρ1 = some (.fz i) ∧ ∃ ds', fSetI ds i d = some ds' ∧ nx (ρ1.set s (.lst ds')) := by
  unfold sSetI
  cases e : m ρ with
  | ok o ρ1 =>
    cases o with
    | fz d =>
      simp only [wM_ok]
      cases e2 : qVar s ρ1 with
      | none => simp [wS, e2]
      | some z =>
        cases z with
        | lst ds =>
          cases e3 : qi ρ1 with
          | none => simp [wS, e2, e3]
          | some y =>
            cases y with
            | fz i => cases e4 : fSetI ds i d <;> simp [wS, e2, e3, e4]
            | _ => simp [wS, e2, e3]
        | _ => simp [wS, e2]
    | _ => simp [wS]
  | _ => rfl
@[simp] theorem wS_for {mi : M (List PD)} {f : QG} : wS (sFor mi f a ρ) nx rt bk ct = wM (mi ρ) fun ds ρ1 => wS (forGo f a ds ρ1) nx rt bk ct := by
  unfold sFor
  cases e : mi ρ <;> rfl
@[simp] theorem wF_defN {more : Nat} {io : List Bool} {os : List O} : wF (defN more io a os) Q = wS (a (os ++ deadN more)) (fun ρ => Q (.fz .none) (outsE io ρ)) (fun o ρ => Q o (outsE io ρ)) (fun _ => False) (fun _ => False) := by
  unfold defN
  cases e : a (os ++ deadN more) <;> rfl
theorem wS_mono {r : RS} {nx' bk' ct' : List O → Prop} {rt' : O → List O → Prop} (h : wS r nx rt bk ct) (h1 : ∀ ρ, nx ρ → nx' ρ) (h2 : ∀ o ρ, rt o ρ → rt' o ρ) (h3 : ∀ ρ, bk ρ → bk' ρ) (h4 : ∀ ρ, ct ρ → ct' ρ) : wS r nx' rt' bk' ct' := by
  cases r with
  | next ρ => exact h1 _ h
  | ret o ρ => exact h2 _ _ h
  | brk ρ => exact h3 _ h
  | cont ρ => exact h4 _ h
  | _ => exact h
theorem wF_mono {r : FR} {Q' : O → List O → Prop} (h : wF r Q) (h1 : ∀ o ρ, Q o ρ → Q' o ρ) : wF r Q' := by
  cases r with
  | ret o ρ => exact h1 _ _ h
  | _ => exact h
/-- for, by an invariant -/
theorem for_inv {f : QG} (I : Nat → List O → Prop) : ∀ (xs : List PD) (k : Nat) (ρ : List O), I k ρ → (∀ i x ρ, xs[i]? = some x → I (k + i) ρ → ∃ ρ1, f x ρ = some ρ1 ∧ wS (a ρ1) (I (k + i + 1)) rt nx (I (k + i + 1))) → (∀ ρ, I (k + xs.length) ρ → nx ρ) → wS (forGo f a xs ρ) nx rt bk ct
  | [], k, ρ, h0, _, he => he ρ h0
  | x :: xs, k, ρ, h0, hs, he => by
    obtain ⟨ρ1, e1, h1⟩ := hs 0 x ρ rfl h0
    unfold forGo
    rw [e1]
    simp only
    have go : ∀ ρ2, I (k + 1) ρ2 → wS (forGo f a xs ρ2) nx rt bk ct := fun ρ2 h2 => for_inv I xs (k + 1) ρ2 h2 (fun i y ρ3 ey h3 => by
      have := hs (i + 1) y ρ3 (by simpa using ey) (by rw [show k + (i + 1) = k + 1 + i by omega]; exact h3)
      rw [show k + (i + 1) = k + 1 + i by omega] at this
      exact this) fun ρ3 h3 => he ρ3 (by rw [show k + (x :: xs).length = k + 1 + xs.length by simp; omega]; exact h3)
    cases e2 : a ρ1 with
    | next ρ2 => rw [e2] at h1; exact go ρ2 h1
    | cont ρ2 => rw [e2] at h1; exact go ρ2 h1
    | brk ρ2 => rw [e2] at h1; exact h1
    | ret o ρ2 => rw [e2] at h1; exact h1
    | exc x ρ2 => rw [e2] at h1; exact h1.elim
    | bad => rw [e2] at h1; exact h1.elim
theorem wS_forI {f : QG} {xs : List PD} (I : Nat → List O → Prop) (h0 : I 0 ρ) (hs : ∀ i x ρ, xs[i]? = some x → I i ρ → ∃ ρ1, f x ρ = some ρ1 ∧ wS (a ρ1) (I (i + 1)) rt nx (I (i + 1))) (he : ∀ ρ, I xs.length ρ → nx ρ) : wS (forGo f a xs ρ) nx rt bk ct :=
  for_inv I xs 0 ρ h0 (fun i x ρ ex h => by rw [Nat.zero_add] at h ⊢; exact hs i x ρ ex h) fun ρ h => he ρ (by rw [Nat.zero_add] at h; exact h)
theorem wS_whileI (I : Nat → List O → Prop) (n : Nat) (h0 : I n ρ) (hs : ∀ n ρ, I n ρ → wM (c ρ) fun t ρ1 => (t = false → nx ρ1) ∧ (t = true → wS (a ρ1) (fun ρ2 => ∃ m, m < n ∧ I m ρ2) rt nx (fun ρ2 => ∃ m, m < n ∧ I m ρ2))) : wS (sWhile c a ρ) nx rt bk ct := by
  induction n using Nat.strongRecOn generalizing ρ with
  | ind n ih =>
    have h := hs n ρ h0
    rw [sWhile_eq]
    unfold whileStep
    cases e : c ρ with
    | bad => rw [e] at h; exact h.elim
    | exc x ρ1 => rw [e] at h; exact h.elim
    | ok t ρ1 =>
      rw [e] at h
      cases t with
      | false => exact h.1 rfl
      | true =>
        have h := h.2 rfl
        simp only
        cases e2 : a ρ1 with
        | next ρ2 => rw [e2] at h; obtain ⟨m, l, q⟩ := h; exact ih m l q
        | cont ρ2 => rw [e2] at h; obtain ⟨m, l, q⟩ := h; exact ih m l q
        | brk ρ2 => rw [e2] at h; exact h
        | ret o ρ2 => rw [e2] at h; exact h
        | exc x ρ2 => rw [e2] at h; exact h.elim
        | bad => rw [e2] at h; exact h.elim
theorem qof_of {f : List O → FR} {ds : List PD} {d : PD} (h : wF (f (ds.map .fz)) fun o _ => toPD o = some d) : qOf f ds = some d := by
  unfold qOf
  cases e : f (ds.map .fz) with
  | ret o outs => rw [e] at h; exact h
  | _ => rw [e] at h; exact h.elim
theorem law_of {f : List O → FR} {os : List O} (h : wF (f os) fun o _ => o = .fz (.bool true)) : ∃ outs, f os = .ret (.fz (.bool true)) outs := by
  cases e : f os with
  | ret o outs =>
    rw [e] at h
    have h' : o = _ := h
    rw [h']
    exact ⟨outs, rfl⟩
  | _ => rw [e] at h; exact h.elim
end
end FM
namespace FM
open PySem PySem.Spec L2 PyProof.Rows
/-! ### words at written-out slots -/
section
variable {ρ : List O} {o : O} {i j : Int}
@[simp] theorem qVar_fz {d : PD} : qVar 0 (.fz d :: ρ) = some (.fz d) := rfl
@[simp] theorem qVar_lst {ds : List PD} : qVar 0 (.lst ds :: ρ) = some (.lst ds) := rfl
@[simp] theorem qVar_dic {ds : List (Key × PD)} : qVar 0 (.dic ds :: ρ) = some (.dic ds) := rfl
@[simp] theorem qVar_dit {ds : List (List Key × PD)} : qVar 0 (.dit ds :: ρ) = some (.dit ds) := rfl
@[simp] theorem qVar_nst {ds : List O} : qVar 0 (.nst ds :: ρ) = some (.nst ds) := rfl
@[simp] theorem qVar_ntp {ds : List O} : qVar 0 (.ntp ds :: ρ) = some (.ntp ds) := rfl
@[simp] theorem qVar_ins {c : Nat} {fs : List (Str × O)} : qVar 0 (.ins c fs :: ρ) = some (.ins c fs) := rfl
@[simp] theorem qVar_dead : qVar 0 (.dead :: ρ) = none := rfl
@[simp] theorem qVar_succ {n : Nat} : qVar (n + 1) (o :: ρ) = qVar n ρ := by
  unfold qVar
  rw [List.getElem?_cons_succ]
@[simp] theorem qC_eq {d : PD} : qC d ρ = some (.fz d) := rfl
@[simp] theorem fzs_nil : fzs [] = some [] := rfl
@[simp] theorem fzs_cons {d : PD} : fzs (.fz d :: ρ) = (fzs ρ).map (d :: ·) := rfl
@[simp] theorem fzs_lst {d : List PD} : fzs (.lst d :: ρ) = none := rfl
@[simp] theorem fzs_dead : fzs (.dead :: ρ) = none := rfl
@[simp] theorem toPD_fz {d : PD} : toPD (.fz d) = some d := rfl
@[simp] theorem toPD_lst {d : List PD} : toPD (.lst d) = some (.list d) := rfl
@[simp] theorem deadN_zero : deadN 0 = [] := rfl
@[simp] theorem deadN_succ {n : Nat} : deadN (n + 1) = .dead :: deadN n := rfl
@[simp] theorem outsE_nil : outsE [] ρ = [] := rfl
@[simp] theorem outsE_t {io : List Bool} : outsE (true :: io) (o :: ρ) = o :: outsE io ρ := rfl
@[simp] theorem outsE_f {io : List Bool} : outsE (false :: io) (o :: ρ) = .dead :: outsE io ρ := rfl
@[simp] theorem fillA_nil : fillA [] [] ρ = some ([], ρ) := rfl
@[simp] theorem fillA_n {as : List (Option Nat)} {xs : List O} : fillA (none :: as) (o :: xs) ρ = (fillA as xs ρ).map fun z => (o :: z.1, z.2) := by
  show (match fillA as xs ρ with | none => none | some z => some (o :: z.1, z.2)) = _
  cases fillA as xs ρ <;> rfl
@[simp] theorem fillA_s {n : Nat} {as : List (Option Nat)} {xs : List O} : fillA (some n :: as) (o :: xs) ρ = (qVar n ρ).bind fun y => (fillA as xs (ρ.set n .dead)).map fun z => (y :: z.1, z.2) := by
  show (match qVar n ρ with | none => none | some y => match fillA as xs (ρ.set n .dead) with | none => none | some z => some (y :: z.1, z.2)) = _
  cases qVar n ρ with
  | none => rfl
  | some y => simp only [Option.bind_some]; cases fillA as xs (ρ.set n .dead) <;> rfl
@[simp] theorem backA_nil {xs : List O} : backA [] xs ρ = ρ := by cases xs <;> rfl
@[simp] theorem backA_n {as : List (Option Nat)} {xs : List O} : backA (none :: as) (o :: xs) ρ = backA as xs ρ := rfl
@[simp] theorem backA_s {n : Nat} {as : List (Option Nat)} {xs : List O} : backA (some n :: as) (o :: xs) ρ = backA as xs (ρ.set n o) := rfl
@[simp] theorem fName_eq {n : Nat} {d : PD} : fName n d ρ = some (ρ.set n (.fz d)) := rfl
@[simp] theorem frzO_eq {n : Nat} : frzO n ρ = match qVar n ρ with
    | some o => match toPD o with
      | some d => ρ.set n (.fz d)
      | none => ρ
    | none => ρ := rfl
/-! operators -/
@[simp] theorem oAdd_i : oAdd (.fz (.int i)) (.fz (.int j)) = some (.fz (.int (i + j))) := rfl
@[simp] theorem oSub_i : oSub (.fz (.int i)) (.fz (.int j)) = some (.fz (.int (i - j))) := rfl
@[simp] theorem oLt_i : oLt (.fz (.int i)) (.fz (.int j)) = some (.fz (.bool (decide (i < j)))) := rfl
@[simp] theorem oLe_i : oLe (.fz (.int i)) (.fz (.int j)) = some (.fz (.bool (decide (i ≤ j)))) := rfl
@[simp] theorem oGt_i : oGt (.fz (.int i)) (.fz (.int j)) = some (.fz (.bool (decide (j < i)))) := rfl
@[simp] theorem oGe_i : oGe (.fz (.int i)) (.fz (.int j)) = some (.fz (.bool (decide (j ≤ i)))) := rfl
@[simp] theorem oNeg_i : oNeg (.fz (.int i)) = some (.fz (.int (-i))) := rfl
theorem oMul_r (h1 : -(2 ^ 64) < j) (h2 : j < 2 ^ 64) : oMul (.fz (.int i)) (.fz (.int j)) = some (.fz (.int (i * j))) := by
  have : cMul i j = true := by
    have hs : small64 j = true := @decide_eq_true _ (Classical.propDecidable _) ⟨h1, h2⟩
    unfold cMul
    rw [hs, Bool.or_true, Bool.true_or]
  simp [oMul, this]
theorem oMul_l (h1 : -(2 ^ 64) < i) (h2 : i < 2 ^ 64) : oMul (.fz (.int i)) (.fz (.int j)) = some (.fz (.int (i * j))) := by
  have : cMul i j = true := by
    have hs : small64 i = true := @decide_eq_true _ (Classical.propDecidable _) ⟨h1, h2⟩
    unfold cMul
    rw [hs, Bool.true_or, Bool.true_or]
  simp [oMul, this]
theorem oDiv_i (h1 : 0 < j) (h2 : j < 2 ^ 200) : oDiv (.fz (.int i)) (.fz (.int j)) = some (.fz (.int (i / j))) := by
  have : cDiv i j = true := by
    unfold cDiv
    have h3 : j.natAbs < 2 ^ 8000 := Nat.lt_of_lt_of_le (by omega : j.natAbs < 2 ^ 200) (Nat.pow_le_pow_right (by decide) (by decide))
    simp [h1, h3]
  simp [oDiv, oI, this]
theorem oMod_i (h1 : 0 < j) : oMod (.fz (.int i)) (.fz (.int j)) = some (.fz (.int (i % j))) := by simp [oMod, oI, h1]
theorem oPow_i (h1 : -(2 ^ 64) < i) (h2 : i < 2 ^ 64) (h3 : 0 ≤ j) (h4 : j ≤ 1000000) : oPow (.fz (.int i)) (.fz (.int j)) = some (.fz (.int (i ^ j.toNat))) := by
  have : cPow i j = true := by
    unfold cPow
    have h5 : i.natAbs < 2 ^ 64 := by omega
    simp [h3, h4, h5]
  simp [oPow, oI, this]
theorem beq_dec (i j : Int) : (i == j) = decide (i = j) := by rw [Bool.eq_iff_iff, beq_iff_eq, decide_eq_true_eq]
@[simp] theorem oEq_i : oEq (.fz (.int i)) (.fz (.int j)) = some (.fz (.bool (decide (i = j)))) := by
  simp [oEq, oEqD, strs2, SeqAt.shaped, PyData.canLay0, PyData.depth, PyData.eqv, beq_dec]
@[simp] theorem oNe_i : oNe (.fz (.int i)) (.fz (.int j)) = some (.fz (.bool (!decide (i = j)))) := by
  simp [oNe, oNeD, strs2, SeqAt.shaped, PyData.canLay0, PyData.depth, PyData.eqv, beq_dec]
@[simp] theorem oAbs_i : oAbs [.fz (.int i)] = some (.fz (.int (if i < 0 then -i else i))) := rfl
@[simp] theorem oMax2_i : oMax2 [.fz (.int i), .fz (.int j)] = some (.fz (.int (if j > i then j else i))) := rfl
@[simp] theorem oMin2_i : oMin2 [.fz (.int i), .fz (.int j)] = some (.fz (.int (if j < i then j else i))) := rfl
@[simp] theorem oInt_b {b : Bool} : oInt [.fz (.bool b)] = some (.fz (.int (if b then 1 else 0))) := rfl
@[simp] theorem oInt_i : oInt [.fz (.int i)] = some (.fz (.int i)) := rfl
@[simp] theorem oLen_l {ds : List PD} : oLen [.fz (.list ds)] = some (.fz (.int ds.length)) := rfl
@[simp] theorem oLen_lst {ds : List PD} : oLen [.lst ds] = some (.fz (.int ds.length)) := rfl
@[simp] theorem oLen_t {ds : List PD} : oLen [.fz (.tuple ds)] = some (.fz (.int ds.length)) := rfl
@[simp] theorem oList_l {ds : List PD} : oList [.fz (.list ds)] = some (.lst ds) := rfl
@[simp] theorem oList_lst {ds : List PD} : oList [.lst ds] = some (.lst ds) := rfl
@[simp] theorem oList_t {ds : List PD} : oList [.fz (.tuple ds)] = some (.lst ds) := rfl
@[simp] theorem oTuple_l {ds : List PD} : oTuple [.fz (.list ds)] = some (.fz (.tuple ds)) := rfl
@[simp] theorem oTuple_lst {ds : List PD} : oTuple [.lst ds] = some (.fz (.tuple ds)) := rfl
@[simp] theorem oTuple_t {ds : List PD} : oTuple [.fz (.tuple ds)] = some (.fz (.tuple ds)) := rfl
@[simp] theorem oIx_l {ds : List PD} : oIx (.fz (.list ds)) (.fz (.int i)) = (atI ds i).map .fz := rfl
@[simp] theorem oIx_lst {ds : List PD} : oIx (.lst ds) (.fz (.int i)) = (atI ds i).map .fz := rfl
@[simp] theorem oIx_t {ds : List PD} : oIx (.fz (.tuple ds)) (.fz (.int i)) = (atI ds i).map .fz := rfl
theorem atI_nn {α : Type} {xs : List α} {i : Int} (h : 0 ≤ i) : atI xs i = xs[i.toNat]? := by
  unfold atI ixN
  rw [if_pos h]
  by_cases h2 : i < xs.length
  · rw [if_pos h2]; rfl
  · rw [if_neg h2, List.getElem?_eq_none (by omega)]; rfl
@[simp] theorem atI_0 {α : Type} {xs : List α} : atI xs 0 = xs[0]? := atI_nn (Int.le_refl 0)
@[simp] theorem atI_1 {α : Type} {xs : List α} : atI xs 1 = xs[1]? := atI_nn (by decide)
@[simp] theorem atI_2 {α : Type} {xs : List α} : atI xs 2 = xs[2]? := atI_nn (by decide)
@[simp] theorem atI_3 {α : Type} {xs : List α} : atI xs 3 = xs[3]? := atI_nn (by decide)
@[simp] theorem atI_4 {α : Type} {xs : List α} : atI xs 4 = xs[4]? := atI_nn (by decide)
@[simp] theorem atI_5 {α : Type} {xs : List α} : atI xs 5 = xs[5]? := atI_nn (by decide)
@[simp] theorem atI_6 {α : Type} {xs : List α} : atI xs 6 = xs[6]? := atI_nn (by decide)
@[simp] theorem atI_7 {α : Type} {xs : List α} : atI xs 7 = xs[7]? := atI_nn (by decide)
@[simp] theorem atI_8 {α : Type} {xs : List α} : atI xs 8 = xs[8]? := atI_nn (by decide)
@[simp] theorem atI_9 {α : Type} {xs : List α} : atI xs 9 = xs[9]? := atI_nn (by decide)
@[simp] theorem atI_10 {α : Type} {xs : List α} : atI xs 10 = xs[10]? := atI_nn (by decide)
@[simp] theorem atI_11 {α : Type} {xs : List α} : atI xs 11 = xs[11]? := atI_nn (by decide)
@[simp] theorem atI_12 {α : Type} {xs : List α} : atI xs 12 = xs[12]? := atI_nn (by decide)
theorem atI_last {α : Type} {xs : List α} (h : xs ≠ []) : atI xs (-1) = xs[xs.length - 1]? := by
  unfold atI ixN
  have : 1 ≤ xs.length := List.length_pos_iff.mpr h
  rw [if_neg (by decide), if_pos (by omega)]
  have e : (-1 + (xs.length : Int)).toNat = xs.length - 1 := by omega
  show xs[(-1 + (xs.length : Int)).toNat]? = _
  rw [e]
@[simp] theorem atI_snoc {α : Type} {xs : List α} {x : α} : atI (xs ++ [x]) (-1) = some x := by
  rw [atI_last (by simp)]
  simp
@[simp] theorem fAppend_eq {ds : List PD} {x : PD} (h : ds.length < sizeLine) : fAppend ds [x] = some (.none, ds ++ [x]) := by simp [fAppend, h]
@[simp] theorem fSetI_i {ds : List PD} {d : PD} : fSetI ds (.int i) d = (ixN ds.length i).map fun n => ds.set n d := rfl
end
/-! words unfold -/
section
variable {ρ : List O} {a b : QE} {c d : List O → Option Bool} {r : List O → Option (List O)}
@[simp] theorem qOp_eq {f : O → O → Option O} : qOp f a b ρ = match a ρ with
    | none => none
    | some x => match b ρ with
      | none => none
      | some y => f x y := rfl
@[simp] theorem qUn_eq {f : O → Option O} : qUn f a ρ = match a ρ with
    | none => none
    | some x => f x := rfl
@[simp] theorem qNil_eq : qNil ρ = some [] := rfl
@[simp] theorem qCons_eq : qCons a r ρ = match a ρ with
    | none => none
    | some x => match r ρ with
      | none => none
      | some xs => some (x :: xs) := rfl
@[simp] theorem qCb_eq {f : List O → Option O} : qCb f r ρ = match r ρ with
    | none => none
    | some xs => f xs := rfl
@[simp] theorem qB_eq : qB a ρ = match a ρ with
    | some (.fz (.bool b)) => some b
    | _ => none := rfl
@[simp] theorem qAnd_eq : qAnd c d ρ = match c ρ with
    | some true => d ρ
    | r => r := rfl
@[simp] theorem qOr_eq : qOr c d ρ = match c ρ with
    | some false => d ρ
    | r => r := rfl
@[simp] theorem qNot_eq : qNot c ρ = match c ρ with
    | some b => some (!b)
    | none => none := rfl
@[simp] theorem qIf_eq : qIf c a b ρ = match c ρ with
    | some true => a ρ
    | some false => b ρ
    | none => none := rfl
@[simp] theorem qFz_eq : qFz a ρ = match a ρ with
    | some o => (toPD o).map .fz
    | none => none := rfl
@[simp] theorem qLst_eq : qLst r ρ = match r ρ with
    | none => none
    | some os => match fzs os with
      | some ds => if ds.length ≤ sizeLine then some (.lst ds) else none
      | none => none := rfl
@[simp] theorem qTup_eq : qTup r ρ = match r ρ with
    | none => none
    | some os => match fzs os with
      | some ds => if ds.length ≤ sizeLine then some (.fz (.tuple ds)) else none
      | none => none := rfl
@[simp] theorem qIfA_eq : qIfA a ρ = match a ρ with
    | none => none
    | some x => fzA x := rfl
@[simp] theorem fzA_l {ds : List PD} : fzA (.fz (.list ds)) = some ds := rfl
@[simp] theorem fzA_t {ds : List PD} : fzA (.fz (.tuple ds)) = some ds := rfl
@[simp] theorem qRng1_eq : qRng1 r ρ = match r ρ with
    | some [.fz (.int j)] => if big62 j then some (rngD 0 j.toNat) else none
    | _ => none := rfl
@[simp] theorem qLrg1_eq : qLrg1 a ρ = match a ρ with
    | some (.fz (.int n)) => if big62 n && decide (n.toNat ≤ 2 ^ 24) then some (.lst (rngD 0 n.toNat)) else none
    | _ => none := rfl
@[simp] theorem qIsi_eq {n : String} : qIsi n a ρ = match a ρ with
    | none => none
    | some x => match toPD x with
      | none => none
      | some d => (isTy n d).map fun b => .fz (.bool b) := rfl
theorem isTy_by {n m : String} {d : PD} {r : Option Bool} (h : tyS d = m) (e : kitB m n = r) : isTy n d = r := by rw [isTy, h, e]
@[simp] theorem isTy_none_int : isTy "int" .none = some false := isTy_by (m := "NoneType") (d := .none) rfl (by decide +kernel)
@[simp] theorem isTy_none_bool : isTy "bool" .none = some false := isTy_by (m := "NoneType") (d := .none) rfl (by decide +kernel)
@[simp] theorem isTy_none_str : isTy "str" .none = some false := isTy_by (m := "NoneType") (d := .none) rfl (by decide +kernel)
@[simp] theorem isTy_none_list : isTy "list" .none = some false := isTy_by (m := "NoneType") (d := .none) rfl (by decide +kernel)
@[simp] theorem isTy_none_tuple : isTy "tuple" .none = some false := isTy_by (m := "NoneType") (d := .none) rfl (by decide +kernel)
@[simp] theorem isTy_none_dict : isTy "dict" .none = some false := isTy_by (m := "NoneType") (d := .none) rfl (by decide +kernel)
@[simp] theorem isTy_bool_int {b : Bool} : isTy "int" (.bool b) = some true := isTy_by (m := "bool") (d := (.bool b)) rfl (by decide +kernel)
@[simp] theorem isTy_bool_bool {b : Bool} : isTy "bool" (.bool b) = some true := isTy_by (m := "bool") (d := (.bool b)) rfl (by decide +kernel)
@[simp] theorem isTy_bool_str {b : Bool} : isTy "str" (.bool b) = some false := isTy_by (m := "bool") (d := (.bool b)) rfl (by decide +kernel)
@[simp] theorem isTy_bool_list {b : Bool} : isTy "list" (.bool b) = some false := isTy_by (m := "bool") (d := (.bool b)) rfl (by decide +kernel)
@[simp] theorem isTy_bool_tuple {b : Bool} : isTy "tuple" (.bool b) = some false := isTy_by (m := "bool") (d := (.bool b)) rfl (by decide +kernel)
@[simp] theorem isTy_bool_dict {b : Bool} : isTy "dict" (.bool b) = some false := isTy_by (m := "bool") (d := (.bool b)) rfl (by decide +kernel)
@[simp] theorem isTy_int_int {i : Int} : isTy "int" (.int i) = some true := isTy_by (m := "int") (d := (.int i)) rfl (by decide +kernel)
@[simp] theorem isTy_int_bool {i : Int} : isTy "bool" (.int i) = some false := isTy_by (m := "int") (d := (.int i)) rfl (by decide +kernel)
@[simp] theorem isTy_int_str {i : Int} : isTy "str" (.int i) = some false := isTy_by (m := "int") (d := (.int i)) rfl (by decide +kernel)
@[simp] theorem isTy_int_list {i : Int} : isTy "list" (.int i) = some false := isTy_by (m := "int") (d := (.int i)) rfl (by decide +kernel)
@[simp] theorem isTy_int_tuple {i : Int} : isTy "tuple" (.int i) = some false := isTy_by (m := "int") (d := (.int i)) rfl (by decide +kernel)
@[simp] theorem isTy_int_dict {i : Int} : isTy "dict" (.int i) = some false := isTy_by (m := "int") (d := (.int i)) rfl (by decide +kernel)
@[simp] theorem isTy_str_int {x : Str} : isTy "int" (.str x) = some false := isTy_by (m := "str") (d := (.str x)) rfl (by decide +kernel)
@[simp] theorem isTy_str_bool {x : Str} : isTy "bool" (.str x) = some false := isTy_by (m := "str") (d := (.str x)) rfl (by decide +kernel)
@[simp] theorem isTy_str_str {x : Str} : isTy "str" (.str x) = some true := isTy_by (m := "str") (d := (.str x)) rfl (by decide +kernel)
@[simp] theorem isTy_str_list {x : Str} : isTy "list" (.str x) = some false := isTy_by (m := "str") (d := (.str x)) rfl (by decide +kernel)
@[simp] theorem isTy_str_tuple {x : Str} : isTy "tuple" (.str x) = some false := isTy_by (m := "str") (d := (.str x)) rfl (by decide +kernel)
@[simp] theorem isTy_str_dict {x : Str} : isTy "dict" (.str x) = some false := isTy_by (m := "str") (d := (.str x)) rfl (by decide +kernel)
@[simp] theorem isTy_list_int {ds : List PD} : isTy "int" (.list ds) = some false := isTy_by (m := "list") (d := (.list ds)) rfl (by decide +kernel)
@[simp] theorem isTy_list_bool {ds : List PD} : isTy "bool" (.list ds) = some false := isTy_by (m := "list") (d := (.list ds)) rfl (by decide +kernel)
@[simp] theorem isTy_list_str {ds : List PD} : isTy "str" (.list ds) = some false := isTy_by (m := "list") (d := (.list ds)) rfl (by decide +kernel)
@[simp] theorem isTy_list_list {ds : List PD} : isTy "list" (.list ds) = some true := isTy_by (m := "list") (d := (.list ds)) rfl (by decide +kernel)
@[simp] theorem isTy_list_tuple {ds : List PD} : isTy "tuple" (.list ds) = some false := isTy_by (m := "list") (d := (.list ds)) rfl (by decide +kernel)
@[simp] theorem isTy_list_dict {ds : List PD} : isTy "dict" (.list ds) = some false := isTy_by (m := "list") (d := (.list ds)) rfl (by decide +kernel)
@[simp] theorem isTy_tuple_int {ds : List PD} : isTy "int" (.tuple ds) = some false := isTy_by (m := "tuple") (d := (.tuple ds)) rfl (by decide +kernel)
@[simp] theorem isTy_tuple_bool {ds : List PD} : isTy "bool" (.tuple ds) = some false := isTy_by (m := "tuple") (d := (.tuple ds)) rfl (by decide +kernel)
@[simp] theorem isTy_tuple_str {ds : List PD} : isTy "str" (.tuple ds) = some false := isTy_by (m := "tuple") (d := (.tuple ds)) rfl (by decide +kernel)
@[simp] theorem isTy_tuple_list {ds : List PD} : isTy "list" (.tuple ds) = some false := isTy_by (m := "tuple") (d := (.tuple ds)) rfl (by decide +kernel)
@[simp] theorem isTy_tuple_tuple {ds : List PD} : isTy "tuple" (.tuple ds) = some true := isTy_by (m := "tuple") (d := (.tuple ds)) rfl (by decide +kernel)
@[simp] theorem isTy_tuple_dict {ds : List PD} : isTy "dict" (.tuple ds) = some false := isTy_by (m := "tuple") (d := (.tuple ds)) rfl (by decide +kernel)
@[simp] theorem isTy_dict_int {ds : List (PD × PD)} : isTy "int" (.dict ds) = some false := isTy_by (m := "dict") (d := (.dict ds)) rfl (by decide +kernel)
@[simp] theorem isTy_dict_bool {ds : List (PD × PD)} : isTy "bool" (.dict ds) = some false := isTy_by (m := "dict") (d := (.dict ds)) rfl (by decide +kernel)
@[simp] theorem isTy_dict_str {ds : List (PD × PD)} : isTy "str" (.dict ds) = some false := isTy_by (m := "dict") (d := (.dict ds)) rfl (by decide +kernel)
@[simp] theorem isTy_dict_list {ds : List (PD × PD)} : isTy "list" (.dict ds) = some false := isTy_by (m := "dict") (d := (.dict ds)) rfl (by decide +kernel)
@[simp] theorem isTy_dict_tuple {ds : List (PD × PD)} : isTy "tuple" (.dict ds) = some false := isTy_by (m := "dict") (d := (.dict ds)) rfl (by decide +kernel)
@[simp] theorem isTy_dict_dict {ds : List (PD × PD)} : isTy "dict" (.dict ds) = some true := isTy_by (m := "dict") (d := (.dict ds)) rfl (by decide +kernel)
end
/-! data that can be shown -/
theorem ofs_len (s : String) : (Str.ofString s).length = s.length := PySem.ofString_length s
structure Fine (h n : Nat) (d : PD) : Prop where
  lay : d.canLay0 = true
  dep : d.depth ≤ h
  sh : d.showable = true
  len : d.shown.length ≤ n
structure FineA (h n : Nat) (ds : List PD) : Prop where
  lay : PyData.canLayAll0 ds = true
  dep : PyData.depthAll ds ≤ h
  sh : PyData.showableAll ds = true
  len : piled (PyData.shownAll ds) ≤ n
theorem Fine.mono {h n h' n' : Nat} {d : PD} (f : Fine h n d) (a : h ≤ h') (b : n ≤ n') : Fine h' n' d := ⟨f.lay, Nat.le_trans f.dep a, f.sh, Nat.le_trans f.len b⟩
theorem Fine.int {i : Int} (h : i.natAbs < 2 ^ 64) : Fine 0 21 (.int i) := by
  refine ⟨by simp [PyData.canLay0], by simp [PyData.depth], ?_, ?_⟩
  · have : i.natAbs.log2 < 1920 := PySem.Spec.log2_small (Nat.lt_of_lt_of_le h (Nat.pow_le_pow_right (by decide) (by decide)))
    simp [PyData.showable, this]
  · rw [PyData.shown_int]
    exact Nat.le_trans (Nat.le_of_eq (ofs_len _)) (int_text_length_le10 (k := 20) (by decide) (Nat.lt_of_lt_of_le h (by decide)))
theorem FineA.nil {h : Nat} : FineA h 0 [] := ⟨by simp [PyData.canLayAll0], by simp [PyData.depthAll], by simp [PyData.showableAll], by simp [PyData.shownAll, piled]⟩
theorem FineA.cons {h n m : Nat} {d : PD} {ds : List PD} (a : Fine h n d) (b : FineA h m ds) : FineA h (n + 2 + m) (d :: ds) := by
  refine ⟨by simp [PyData.canLayAll0, a.lay, b.lay], ?_, by simp [PyData.showableAll, a.sh, b.sh], ?_⟩
  · have h1 := a.dep
    have h2 := b.dep
    simp [PyData.depthAll]
    omega
  · have h1 := a.len
    have h2 := b.len
    rw [PyData.shownAll_cons, piled_cons]
    omega
theorem FineA.all {h n : Nat} : ∀ {ds : List PD}, (∀ d ∈ ds, Fine h n d) → FineA h (ds.length * (n + 2)) ds
  | [], _ => by rw [List.length_nil, Nat.zero_mul]; exact .nil
  | d :: ds, f => by
    have := FineA.cons (f d List.mem_cons_self) (FineA.all fun x m => f x (List.mem_cons_of_mem _ m))
    rw [List.length_cons, Nat.succ_mul, Nat.add_comm (ds.length * (n + 2))]
    exact this
theorem join_le (ts : List Str) : (Str.join ", " ts).length ≤ piled ts := by
  by_cases h : ts = []
  · subst h
    decide
  · have := join_length_add ts h
    omega
theorem FineA.list {h n : Nat} {ds : List PD} (a : FineA h n ds) : Fine (h + 1) (n + 2) (.list ds) := by
  refine ⟨by simp [PyData.canLay0, a.lay], by have := a.dep; simp [PyData.depth]; omega, by simp [PyData.showable, a.sh], ?_⟩
  have h1 := a.len
  have h2 := join_le (PyData.shownAll ds)
  rw [PyData.shown_list, strLen_append, strLen_append]
  have e1 : ("[" : Str).length = 1 := by decide
  have e2 : ("]" : Str).length = 1 := by decide
  omega
theorem FineA.tuple {h n : Nat} {ds : List PD} (a : FineA h n ds) : Fine (h + 1) (n + 3) (.tuple ds) := by
  refine ⟨by simp [PyData.canLay0, a.lay], by have := a.dep; simp [PyData.depth]; omega, by simp [PyData.showable, a.sh], ?_⟩
  have h1 := a.len
  have h2 := join_le (PyData.shownAll ds)
  rw [PyData.shown_tuple, strLen_append, strLen_append]
  have e1 : ("(" : Str).length = 1 := by decide
  have e2 : ((if ds.length == 1 then ",)" else ")" : String) : Str).length ≤ 2 := by
    split <;> decide
  omega
theorem Fine.shaped {h n : Nat} {d : PD} (f : Fine h n d) (a : h ≤ 64) : SeqAt.shaped d = true := by
  unfold SeqAt.shaped
  rw [f.lay, decide_eq_true (Nat.le_trans f.dep a)]
  rfl
theorem oStr_seq {h n : Nat} {d : PD} (f : Fine h n d) (a : h ≤ 64) (b : n ≤ sizeLine) (s : isSeqD d = true) : oStr [.fz d] = some (.fz (.str d.shown)) := by
  have e1 := f.shaped a
  have e2 := PyData.hasDict_of_canLay d f.lay
  have e3 : d.shown.length ≤ sizeLine := Nat.le_trans f.len b
  cases d with
  | list ds => simp [oStr, s, e1, e2, e3, f.sh]
  | tuple ds => simp [oStr, s, e1, e2, e3, f.sh]
  | _ => cases s
end FM
namespace FM
open PySem PySem.Spec L2 PyProof.Rows
/-! ### comprehensions whose items may have effects -/
theorem Envs.unset {k : Kc} {F H : Hp} : ∀ {σ : L2.St} {ρ : List O} {S : List Addr} (j : Nat), Envs k F H (σ.set j none) ρ S → Envs k F H σ ρ S
  | [], _, _, _, h => by simpa using h
  | x :: σ, _, _, 0, h => by
    cases h with
    | dead r => exact .dead r
  | x :: σ, _, _, j + 1, h => by
    have h' : Envs k F H (x :: σ.set j none) _ _ := h
    cases h' with
    | dead r => exact .dead (Envs.unset j r)
    | cons w r => exact .cons w (Envs.unset j r)
theorem Envs.unwipe {k : Kc} {F H : Hp} {σ : L2.St} : ∀ {vs : List Nat} {ρ : List O} {S : List Addr}, Envs k F H (L2.wipe σ vs) ρ S → Envs k F H σ ρ S
  | [], _, _, h => h
  | v :: vs, _, _, h => Envs.unwipe (vs := vs) (Envs.unset v h)
theorem Envs.wipeS {k : Kc} {F H : Hp} {σ : L2.St} {ρ : List O} {S : List Addr} (h : Envs k F H σ ρ S) : ∀ vs : List Nat, ∃ S', S'.Sublist S ∧ Envs k F H (L2.wipe σ vs) (wipeO ρ vs) S'
  | [] => ⟨S, .refl _, h⟩
  | v :: vs => by
    obtain ⟨S1, m1, h1⟩ := Envs.wipeS h vs
    obtain ⟨S2, m2, h2⟩ := Envs.setD (v := none) v h1
    exact ⟨S2, m2.trans m1, h2⟩
def lcGoM (f : QG) (c : M Bool) (e : M O) (vs : List Nat) : List PD → List PD → List O → R (List PD)
  | [], acc, ρ => .ok acc ρ
  | x :: xs, acc, ρ => match f x ρ with
    | none => .bad
    | some ρ1 => match c ρ1 with
      | .ok false ρ2 => lcGoM f c e vs xs acc (wipeO ρ2 vs)
      | .ok true ρ2 => match e ρ2 with
        | .ok (.fz d) ρ3 => if acc.length < sizeLine then lcGoM f c e vs xs (acc ++ [d]) (wipeO ρ3 vs) else .bad
        | _ => .bad
      | _ => .bad
def mLc (mi : M (List PD)) (f : QG) (c : M Bool) (e : M O) (vs : List Nat) : M O := fun ρ => match mi ρ with
  | .ok ds ρ1 => match lcGoM f c e vs ds [] (wipeO ρ1 vs) with
    | .ok acc ρ2 => .ok (.lst acc) ρ2
    | _ => .bad
  | .exc x ρ1 => .exc x ρ1
  | .bad => .bad
def bYes : M Bool := fun ρ => .ok true ρ
section
variable {k : Kc} {E : XK}
theorem ttm_yes : TTm k E tYes bYes := fun P e σ ρ vs os H Q s g => g H s
/-- an own list on top grows -/
theorem St.grow {P : List (Nat × V)} {e : Ent} {σ : L2.St} {ρ : List O} {vs : List V} {os : List O} {H : Hp} {y : V} {d : PD} {D : Addr} {acc : List PD} (s : St k P e σ ρ (y :: .ref D :: vs) (.fz d :: .lst acc :: os) H) :
    ∃ ws, H D = some (.lst ws) ∧ ws.length = acc.length ∧ St k P e σ ρ (.ref D :: vs) (.lst (acc ++ [d]) :: os) (upd H D (.lst (ws ++ [y]))) := by
  obtain ⟨F, S1, S2, s⟩ := s
  obtain ⟨rd, s⟩ := s.top
  obtain ⟨env, tmp, fr, pin⟩ := s
  cases tmp with
  | @cons _ _ _ _ T U w r =>
    cases w with
    | @lst a ws _ h rr =>
      have fr' : Fr e F H (D :: (S1 ++ U)) := Sbp.fr fr (.of_count fun b => by
        simp only [List.count_append, List.count_cons, List.count_nil]
        omega)
      have hD : H D = some (.lst ws) := by
        rcases h with h | ⟨ob, h⟩
        · exact h
        · exact (fr'.nofz D List.mem_cons_self ob _ h).elim
      have nd := List.nodup_cons.mp fr'.nd
      have at_ : ∀ Z : List Addr, (∀ b ∈ Z, b ∈ S1 ++ U) → At Z H (upd H D (.lst (ws ++ [y]))) := fun Z m b mb u z => by
        rw [upd_ne (fun q => nd.1 (by rw [← q]; exact m b mb))]
        exact z
      have fw := fr'.write (a := D) (o := .lst (ws ++ [y])) List.mem_cons_self (fun _ _ z => by cases z)
      refine ⟨ws, hD, rr.length, F, S1, [D] ++ U, env.mono (Same.refl F) (at_ S1 fun b m => List.mem_append_left _ m), .cons (.lst (.inl upd_same) (rr.append (.cons rd .nil))) (r.mono (Same.refl F) (at_ U fun b m => List.mem_append_right _ m)), Sbp.fr fw (.of_count fun b => ?_), pin⟩
      simp only [List.count_append, List.count_cons, List.count_nil]
      omega
theorem tem_lc {wi : TI} {g : TG} {tt : TT} {te : TE} {vs : List Nat} {mi : M (List PD)} {f : QG} {c : M Bool} {me : M O} {J : List Nat} (hi : TIm k E wi mi) (hg : TGq k g f J) (hJ : J.all fun j => vs.contains j) (ht : TTm k E0 tt c) (he : TEm k E0 te me) :
    TEm k E (tLc wi g tt te vs) (mLc mi f c me vs) := by
  have hJ' : ∀ j ∈ J, j ∈ vs := fun j m => by simpa using List.all_eq_true.mp hJ j m
  intro P e σ ρ ws os H Q s gg
  refine hi P e σ ρ ws os H _ s ?_
  unfold mLc at gg
  cases e1 : mi ρ with
  | exc x ρ1 => rw [e1] at gg; exact gg
  | bad => rw [e1] at gg; exact gg
  | ok ds ρ1 =>
    rw [e1] at gg
    simp only at gg
    intro It F H1 S1 S2 s1 W D hD
    let e' : Ent := ⟨F, H1, S1 ++ S2⟩
    have f0 : Fr e F H1 (S1 ++ S2) := s1.fr
    cases e2 : lcGoM f c me vs ds [] (wipeO ρ1 vs) with
    | exc x ρ2 => rw [e2] at gg; exact gg.elim
    | bad => rw [e2] at gg; exact gg.elim
    | ok ys ρ2 =>
      rw [e2] at gg
      simp only at gg
      have rewipe : ∀ {σ2 : L2.St} {ρ2 : List O} {zs : List V} {xs : List O} {H2 : Hp}, St k [] e' σ2 ρ2 zs xs H2 → L2.wipe σ2 vs = L2.wipe σ vs → St k [] e' (L2.wipe σ vs) (wipeO ρ2 vs) zs xs H2 := fun {σ2 ρ2 zs xs H2} s ew => by
        obtain ⟨F2, T1, T2, env, tmp, fr, _⟩ := s
        obtain ⟨T', m, q⟩ := env.wipeS vs
        rw [ew] at q
        exact ⟨F2, T', T2, q, tmp, fr.sub (List.Sublist.append m (.refl _)), fun p m => by cases m⟩
      have sD : St k [] e' (L2.wipe σ vs) (wipeO ρ1 vs) (.ref D :: ws) (.lst [] :: os) (upd H1 D (.lst [])) := by
        refine rewipe (σ2 := σ) ?_ rfl
        have s1' : StW k [] e' σ ρ1 ws os F H1 S1 S2 := ⟨s1.env, s1.tmp, s1.fr.refl, fun p m => by cases m⟩
        exact s1'.pushN hD (fun _ _ z => by cases z) (.lst (.inl upd_same) .nil)
      refine ⟨fun i m H => m = ds.length - i ∧ i ≤ ds.length ∧ ∃ acc ρi, St k [] e' (L2.wipe σ vs) ρi (.ref D :: ws) (.lst acc :: os) H ∧ lcGoM f c me vs (ds.drop i) acc ρi = .ok ys ρ2, ⟨_, rfl, Nat.zero_le _, [], _, sD, by simpa using e2⟩, ?_⟩
      rintro i m H2 ⟨rfl, hi2, acc, ρi, s2, g2⟩
      by_cases hlt : i < ds.length
      · obtain ⟨F2, T1, T2, s2⟩ := s2
        refine .inr ⟨W.goes i F2 H2 hlt s2.fr.f0 s2.fr.fle, fun H' => i + 1 ≤ ds.length ∧ ∃ acc ρi, St k [] e' (L2.wipe σ vs) ρi (.ref D :: ws) (.lst acc :: os) H' ∧ lcGoM f c me vs (ds.drop (i + 1)) acc ρi = .ok ys ρ2, fun H' z => ⟨_, by omega, rfl, z.1, z.2⟩, fun x H3 y => ?_⟩
        obtain ⟨F3, x3, rx⟩ := W.yields i F2 H2 x H3 hlt s2.fr.f0 s2.fr.fle y
        rw [List.drop_eq_getElem_cons hlt] at g2
        unfold lcGoM at g2
        cases e6 : f ds[i] ρi with
        | none => rw [e6] at g2; cases g2
        | some ρ4 =>
          simp only [e6] at g2
          have s3 : StW k [] e' (L2.wipe σ vs) ρi (.ref D :: ws) (.lst acc :: os) F3 H3 T1 T2 := s2.xt x3
          refine hg F3 H3 _ ρi ρ4 T1 x ds[i] _ s3.qs rx e6 fun σ4 S' q' m' ag => ?_
          have ew : L2.wipe σ4 vs = L2.wipe σ vs := by rw [ag.wipe hJ']; exact wipe_wipe vs vs fun _ z => z
          have s4 : St k [] e' σ4 ρ4 (.ref D :: ws) (.lst acc :: os) H3 := ⟨F3, S', T2, q'.env, s3.tmp, s3.fr.sub (List.Sublist.append m' (.refl _)), fun p m => by cases m⟩
          refine ⟨ew, ht [] e' σ4 ρ4 _ _ H3 _ s4 ?_⟩
          cases e7 : c ρ4 with
          | exc x5 ρ5 => simp only [e7] at g2; cases g2
          | bad => simp only [e7] at g2; cases g2
          | ok b ρ5 =>
            simp only [e7] at g2
            intro H5 s5
            cases b with
            | false =>
              rw [if_neg (by decide)]
              exact ⟨hlt, acc, _, rewipe s5 ew, g2⟩
            | true =>
              rw [if_pos rfl]
              simp only at g2
              refine he [] e' σ4 ρ5 _ _ H5 _ s5 ?_
              cases e8 : me ρ5 with
              | exc x6 ρ6 => simp only [e8] at g2; cases g2
              | bad => simp only [e8] at g2; cases g2
              | ok o6 ρ6 =>
                simp only [e8] at g2
                intro v H6 s6
                cases o6 with
                | fz d =>
                  simp only at g2
                  split at g2
                  · rename_i hz
                    obtain ⟨zs, z1, z2, z3⟩ := s6.grow
                    exact ⟨zs, z1, by omega, hlt, acc ++ [d], _, rewipe z3 ew, g2⟩
                  · cases g2
                | _ => cases g2
      · have ei : i = ds.length := by omega
        subst ei
        obtain ⟨F2, T1, T2, s2⟩ := s2
        refine .inl ⟨W.stops F2 H2 s2.fr.f0 s2.fr.fle, ?_⟩
        rw [List.drop_length] at g2
        unfold lcGoM at g2
        cases g2
        exact gg (.ref D) H2 ⟨F2, T1, T2, s2.env.unwipe, s2.tmp, f0.trans s2.fr, s1.pin⟩
end
end FM
namespace FM
open PySem PySem.Spec L2 PyProof.Rows
/-! ### all, any, sum, max, min, sorted of a list -/
def boolsD : List PD → Option (List Bool)
  | [] => some []
  | .bool b :: r => (boolsD r).map (b :: ·)
  | _ => none
def intsD : List PD → Option (List Int)
  | [] => some []
  | .int b :: r => (intsD r).map (b :: ·)
  | _ => none
theorem boolsD_eq : ∀ {ds : List PD} {bs : List Bool}, boolsD ds = some bs → ds = bs.map .bool
  | [], bs, e => by cases e; rfl
  | .bool b :: r, bs, e => by
    obtain ⟨z, e1, e2⟩ := Option.map_eq_some_iff.mp (show (boolsD r).map (b :: ·) = some bs from e)
    subst e2
    rw [boolsD_eq e1]
    rfl
theorem intsD_eq : ∀ {ds : List PD} {bs : List Int}, intsD ds = some bs → ds = bs.map .int
  | [], bs, e => by cases e; rfl
  | .int b :: r, bs, e => by
    obtain ⟨z, e1, e2⟩ := Option.map_eq_some_iff.mp (show (intsD r).map (b :: ·) = some bs from e)
    subst e2
    rw [intsD_eq e1]
    rfl
@[simp] theorem boolsD_map (bs : List Bool) : boolsD (bs.map .bool) = some bs := by
  induction bs with
  | nil => rfl
  | cons b bs ih => rw [List.map_cons]; show (boolsD _).map _ = _; rw [ih]; rfl
@[simp] theorem intsD_map (bs : List Int) : intsD (bs.map .int) = some bs := by
  induction bs with
  | nil => rfl
  | cons b bs ih => rw [List.map_cons]; show (intsD _).map _ = _; rw [ih]; rfl
theorem reps_bools {K : Frag} {F : Hp} : ∀ {bs : List Bool} {vs : List V}, Reps K F vs (bs.map .bool) → vs = bs.map V.bl
  | [], _, .nil => rfl
  | b :: bs, _, .cons w r => by
    rw [reps_bools r]
    cases w with
    | bl => rfl
    | dic _ _ e => cases e
    | dit _ _ e => cases e
theorem reps_ints {K : Frag} {F : Hp} : ∀ {bs : List Int} {vs : List V}, Reps K F vs (bs.map .int) → vs = bs.map V.int
  | [], _, .nil => rfl
  | b :: bs, _, .cons w r => by
    rw [reps_ints r]
    cases w with
    | int => rfl
    | dic _ _ e => cases e
    | dit _ _ e => cases e
def oBools (g : List Bool → Bool) : List O → Option O
  | [x] => match seqL x with
    | some ds => (boolsD ds).map fun bs => .fz (.bool (g bs))
    | none => none
  | _ => none
def oInts (g : List Int → Option PD) : List O → Option O
  | [x] => match seqL x with
    | some ds => match intsD ds with
      | some ns => (g ns).map .fz
      | none => none
    | none => none
  | _ => none
def oAll := oBools fun bs => bs.all id
def oAny := oBools fun bs => bs.any id
def oSum := oInts fun ns => some (.int ns.sum)
def maxI : List Int → Int
  | [] => 0
  | [x] => x
  | x :: y :: r => max x (maxI (y :: r))
def minI : List Int → Int
  | [] => 0
  | [x] => x
  | x :: y :: r => min x (minI (y :: r))
theorem maxI_is : ∀ {ns : List Int}, ns ≠ [] → maxI ns ∈ ns ∧ ∀ y ∈ ns, y ≤ maxI ns
  | [], h => absurd rfl h
  | [x], _ => by simp [maxI]
  | x :: y :: r, _ => by
    obtain ⟨h1, h2⟩ := maxI_is (ns := y :: r) (by simp)
    have e : maxI (x :: y :: r) = max x (maxI (y :: r)) := rfl
    rw [e]
    refine ⟨?_, fun z m => ?_⟩
    · rcases Int.le_total x (maxI (y :: r)) with l | l
      · rw [Int.max_eq_right l]; exact List.mem_cons_of_mem _ h1
      · rw [Int.max_eq_left l]; exact List.mem_cons_self
    · rcases List.mem_cons.mp m with m | m
      · rw [m]; exact Int.le_max_left _ _
      · exact Int.le_trans (h2 z m) (Int.le_max_right _ _)
theorem minI_is : ∀ {ns : List Int}, ns ≠ [] → minI ns ∈ ns ∧ ∀ y ∈ ns, minI ns ≤ y
  | [], h => absurd rfl h
  | [x], _ => by simp [minI]
  | x :: y :: r, _ => by
    obtain ⟨h1, h2⟩ := minI_is (ns := y :: r) (by simp)
    have e : minI (x :: y :: r) = min x (minI (y :: r)) := rfl
    rw [e]
    refine ⟨?_, fun z m => ?_⟩
    · rcases Int.le_total x (minI (y :: r)) with l | l
      · rw [Int.min_eq_left l]; exact List.mem_cons_self
      · rw [Int.min_eq_right l]; exact List.mem_cons_of_mem _ h1
    · rcases List.mem_cons.mp m with m | m
      · rw [m]; exact Int.min_le_left _ _
      · exact Int.le_trans (Int.min_le_right _ _) (h2 z m)
def oMax1 := oInts fun ns => if ns = [] then none else some (.int (maxI ns))
def oMin1 := oInts fun ns => if ns = [] then none else some (.int (minI ns))
section
variable {k : Kc}
theorem bools_ok {F H : Hp} {S : List Addr} {g : List Bool → Bool} {xs : List V} {os : List O} {o : O} (f : FLe F H) (ws : Vws k F H S xs os) (e : oBools g os = some o) : ∃ a bs, xs = [.ref a] ∧ SqL k.K H a (bs.map V.bl) ∧ o = .fz (.bool (g bs)) := by
  unfold oBools at e
  split at e
  · cases ws with
    | cons w ws =>
      cases ws
      split at e
      · rename_i ds es
        obtain ⟨bs, e1, e2⟩ := Option.map_eq_some_iff.mp e
        obtain ⟨a, vs, rfl, g1, g2⟩ := w.seqL f es
        have e3 := boolsD_eq e1
        subst e3
        rw [reps_bools g2] at g1
        exact ⟨a, bs, rfl, g1, e2.symm⟩
      · cases e
  · cases e
theorem ints_ok {F H : Hp} {S : List Addr} {g : List Int → Option PD} {xs : List V} {os : List O} {o : O} (f : FLe F H) (ws : Vws k F H S xs os) (e : oInts g os = some o) : ∃ a bs d, xs = [.ref a] ∧ SqL k.K H a (bs.map V.int) ∧ g bs = some d ∧ o = .fz d := by
  unfold oInts at e
  split at e
  · cases ws with
    | cons w ws =>
      cases ws
      split at e
      · rename_i ds es
        split at e
        · rename_i bs e1
          obtain ⟨d, e2, e4⟩ := Option.map_eq_some_iff.mp e
          obtain ⟨a, vs, rfl, g1, g2⟩ := w.seqL f es
          have e3 := intsD_eq e1
          subst e3
          rw [reps_ints g2] at g1
          exact ⟨a, bs, d, rfl, g1, e2, e4.symm⟩
        · cases e
      · cases e
  · cases e
theorem cb_all : CbV k (rAll k.K) oAll := by
  intro F H S xs os o Q f off th ws e h
  obtain ⟨a, bs, e1, e2, e3⟩ := bools_ok f ws e
  subst e3
  exact ⟨a, bs, e1, e2, h _ F H (Xt.refl f) (.fz (.bl _))⟩
theorem cb_any : CbV k (rAny k.K) oAny := by
  intro F H S xs os o Q f off th ws e h
  obtain ⟨a, bs, e1, e2, e3⟩ := bools_ok f ws e
  subst e3
  exact ⟨a, bs, e1, e2, h _ F H (Xt.refl f) (.fz (.bl _))⟩
theorem cb_sum : CbV k (rSum k.K) oSum := by
  intro F H S xs os o Q f off th ws e h
  obtain ⟨a, bs, d, e1, e2, e3, e4⟩ := ints_ok f ws e
  cases e3
  subst e4
  exact ⟨a, bs, e1, e2, h _ F H (Xt.refl f) (.fz (.int _))⟩
theorem cb_max1 : CbV k (rMax k.K) oMax1 := by
  intro F H S xs os o Q f off th ws e h
  obtain ⟨a, bs, d, e1, e2, e3, e4⟩ := ints_ok f ws e
  split at e3
  · cases e3
  · rename_i hne
    cases e3
    subst e4
    refine ⟨a, bs, e1, e2, List.length_pos_iff.mpr hne, fun m m1 m2 => ?_⟩
    obtain ⟨h1, h2⟩ := maxI_is hne
    rw [Int.le_antisymm (h2 m m1) (m2 _ h1)]
    exact h _ F H (Xt.refl f) (.fz (.int _))
theorem cb_min1 : CbV k (rMin k.K) oMin1 := by
  intro F H S xs os o Q f off th ws e h
  obtain ⟨a, bs, d, e1, e2, e3, e4⟩ := ints_ok f ws e
  split at e3
  · cases e3
  · rename_i hne
    cases e3
    subst e4
    refine ⟨a, bs, e1, e2, List.length_pos_iff.mpr hne, fun m m1 m2 => ?_⟩
    obtain ⟨h1, h2⟩ := minI_is hne
    rw [Int.le_antisymm (m2 _ h1) (h2 m m1)]
    exact h _ F H (Xt.refl f) (.fz (.int _))
end
end FM
namespace FM
open PySem PySem.Spec L2 PyProof.Rows
/-! ### zip of two lists, of two tuples; enumerate of a list -/
def pairD (a b : PD) : PD := .tuple [a, b]
def zipD (ds es : List PD) : List PD := List.zipWith pairD ds es
theorem zip_at {ds es : List PD} {i : Nat} (h : i < (zipD ds es).length) : ∃ (h1 : i < ds.length) (h2 : i < es.length), (zipD ds es)[i] = pairD ds[i] es[i] := by
  have h' : i < min ds.length es.length := by simpa [zipD] using h
  exact ⟨by omega, by omega, by simp [zipD]⟩
section
variable {k : Kc} {P : Hp → Hp → Prop} {a b : Addr} {vs ws : List V} {ds es : List PD}
theorem pair_new {F H : Hp} {T : Addr} {x y : V} {d e : PD} (f : FLe F H) (hT : H T = none) (r1 : Rep k.K F x d) (r2 : Rep k.K F y e) : ∃ F', Xt F H F' (upd H T (.tup [x, y])) ∧ Rep k.K F' (.ref T) (pairD d e) :=
  ⟨_, Xt.new f hT, .tup upd_same (.cons (r1.sub (Xt.new f hT).sub) (.cons (r2.sub (Xt.new f hT).sub) .nil))⟩
theorem walkD_zip (hs : ∀ F H, P F H → FLe F H → SqL k.K H a vs ∧ Reps k.K F vs ds ∧ SqL k.K H b ws ∧ Reps k.K F ws es) (l1 : vs.length = ds.length) (l2 : ws.length = es.length) : WalkD k P (Itz k.K a b) (zipD ds es) := by
  refine ⟨fun i F H hi p f => ?_, fun F H p f => ?_, fun i F H x H' hi p f y => ?_⟩
  · obtain ⟨h1, h2, _⟩ := zip_at hi
    obtain ⟨s1, r1, s2, r2⟩ := hs F H p f
    exact ⟨vs, ws, vs[i], ws[i], s1, s2, List.getElem?_eq_getElem (by omega), List.getElem?_eq_getElem (by omega)⟩
  · obtain ⟨s1, r1, s2, r2⟩ := hs F H p f
    refine ⟨vs, ws, s1, s2, ?_⟩
    have : (zipD ds es).length = min ds.length es.length := by simp [zipD]
    omega
  · obtain ⟨h1, h2, h3⟩ := zip_at hi
    obtain ⟨s1, r1, s2, r2⟩ := hs F H p f
    obtain ⟨T, x1, y1, rfl, hT, rfl, e1, e2⟩ := y
    obtain ⟨v, g1, g2⟩ := r1.get (i := i) (d := ds[i]) (by simp [h1])
    obtain ⟨w, g3, g4⟩ := r2.get (i := i) (d := es[i]) (by simp [h2])
    rw [e1 vs s1] at g1
    rw [e2 ws s2] at g3
    cases g1
    cases g3
    rw [h3]
    exact pair_new f hT g2 g4
theorem walkD_zipT (hs : ∀ F H, P F H → FLe F H → SqT k.K H a vs ∧ Reps k.K F vs ds ∧ SqT k.K H b ws ∧ Reps k.K F ws es) (l1 : vs.length = ds.length) (l2 : ws.length = es.length) : WalkD k P (RZ.ItzT k.K a b) (zipD ds es) := by
  refine ⟨fun i F H hi p f => ?_, fun F H p f => ?_, fun i F H x H' hi p f y => ?_⟩
  · obtain ⟨h1, h2, _⟩ := zip_at hi
    obtain ⟨s1, r1, s2, r2⟩ := hs F H p f
    exact ⟨vs, ws, vs[i], ws[i], s1, s2, List.getElem?_eq_getElem (by omega), List.getElem?_eq_getElem (by omega)⟩
  · obtain ⟨s1, r1, s2, r2⟩ := hs F H p f
    refine ⟨vs, ws, s1, s2, ?_⟩
    have : (zipD ds es).length = min ds.length es.length := by simp [zipD]
    omega
  · obtain ⟨h1, h2, h3⟩ := zip_at hi
    obtain ⟨s1, r1, s2, r2⟩ := hs F H p f
    obtain ⟨T, x1, y1, rfl, hT, rfl, e1, e2⟩ := y
    obtain ⟨v, g1, g2⟩ := r1.get (i := i) (d := ds[i]) (by simp [h1])
    obtain ⟨w, g3, g4⟩ := r2.get (i := i) (d := es[i]) (by simp [h2])
    rw [e1 vs s1] at g1
    rw [e2 ws s2] at g3
    cases g1
    cases g3
    rw [h3]
    exact pair_new f hT g2 g4
def enumGo : Nat → List PD → List PD
  | _, [] => []
  | n, d :: ds => pairD (.int (n : Int)) d :: enumGo (n + 1) ds
theorem enum_at : ∀ {ds : List PD} {n i : Nat} (h : i < (enumGo n ds).length), ∃ (h1 : i < ds.length), (enumGo n ds)[i] = pairD (.int ((n + i : Nat) : Int)) ds[i]
  | [], _, _, h => absurd h (Nat.not_lt_zero _)
  | d :: ds, n, 0, h => ⟨Nat.zero_lt_succ _, rfl⟩
  | d :: ds, n, i + 1, h => by
    obtain ⟨h1, h2⟩ := enum_at (ds := ds) (n := n + 1) (i := i) (by simpa [enumGo] using h)
    refine ⟨Nat.succ_lt_succ h1, ?_⟩
    have e : (enumGo n (d :: ds))[i + 1] = (enumGo (n + 1) ds)[i]'(by simpa [enumGo] using h) := rfl
    rw [e, h2, show n + 1 + i = n + (i + 1) by omega]
    rfl
theorem enum_len : ∀ (ds : List PD) (n : Nat), (enumGo n ds).length = ds.length
  | [], _ => rfl
  | _ :: ds, n => congrArg (· + 1) (enum_len ds (n + 1))
theorem walkD_enum (hs : ∀ F H, P F H → FLe F H → SqL k.K H a vs ∧ Reps k.K F vs ds) (l1 : vs.length = ds.length) : WalkD k P (Ite k.K a) (enumGo 0 ds) := by
  refine ⟨fun i F H hi p f => ?_, fun F H p f => ?_, fun i F H x H' hi p f y => ?_⟩
  · obtain ⟨h1, _⟩ := enum_at hi
    exact ⟨vs, vs[i], (hs F H p f).1, List.getElem?_eq_getElem (by omega)⟩
  · exact ⟨vs, (hs F H p f).1, by rw [enum_len]; omega⟩
  · obtain ⟨h1, h3⟩ := enum_at hi
    obtain ⟨s1, r1⟩ := hs F H p f
    obtain ⟨T, x1, rfl, hT, rfl, e1⟩ := y
    obtain ⟨v, g1, g2⟩ := r1.get (i := i) (d := ds[i]) (by simp [h1])
    rw [e1 vs s1] at g1
    cases g1
    rw [h3, Nat.zero_add]
    exact pair_new f hT (.int _) g2
/-- two frozen lists, two frozen tuples -/
def qZip (r : List O → Option (List O)) : QI := fun ρ => match r ρ with
  | some [.fz (.list ds), .fz (.list es)] => some (zipD ds es)
  | some [.fz (.tuple ds), .fz (.tuple es)] => some (zipD ds es)
  | _ => none
theorem tif_zip {ta : TA} {qs : List O → Option (List O)} (ha : TAv k ta qs) : TIf k (RZ.iZipA k.K ta) (qZip qs) := by
  intro F H σ ρ S xs R q e g
  unfold qZip at e
  split at e
  · rename_i ds es e1
    have e' := Option.some.inj e
    subst e'
    refine ha F H σ ρ S _ _ q e1 fun us F1 H1 x1 w1 => ?_
    cases w1 with
    | cons w ww =>
      cases ww with
      | cons w' ww =>
        cases ww
        obtain ⟨a, vs, rfl, g1, g2⟩ := w.fzL rfl
        obtain ⟨b, ws, rfl, g3, g4⟩ := w'.fzL rfl
        exact ⟨a, b, vs, ws, rfl, .inl ⟨sqL_le x1.fle g1, sqL_le x1.fle g3, g _ F1 H1 x1 (walkD_zip (fun F2 H2 p f => ⟨sqL_le f (sqL_sub p g1), g2.sub p, sqL_le f (sqL_sub p g3), g4.sub p⟩) g2.length g4.length)⟩⟩
  · rename_i ds es e1
    have e' := Option.some.inj e
    subst e'
    refine ha F H σ ρ S _ _ q e1 fun us F1 H1 x1 w1 => ?_
    cases w1 with
    | cons w ww =>
      cases ww with
      | cons w' ww =>
        cases ww
        obtain ⟨a, vs, rfl, g1, g2⟩ := w.fzR (ds := ds) rfl
        obtain ⟨b, ws, rfl, g3, g4⟩ := w'.fzR (ds := es) rfl
        exact ⟨a, b, vs, ws, rfl, .inr ⟨sqT_le x1.fle (g1 F1 (Same.refl _)), sqT_le x1.fle (g3 F1 (Same.refl _)), g _ F1 H1 x1 (walkD_zipT (fun F2 H2 p f => ⟨sqT_le f (g1 F2 p), g2.sub p, sqT_le f (g3 F2 p), g4.sub p⟩) g2.length g4.length)⟩⟩
  · cases e
def qEnum (r : List O → Option (List O)) : QI := fun ρ => match r ρ with
  | some [.fz (.list ds)] => some (enumGo 0 ds)
  | _ => none
theorem tif_enum {ta : TA} {qs : List O → Option (List O)} (ha : TAv k ta qs) : TIf k (iEnum k.K ta) (qEnum qs) := by
  intro F H σ ρ S xs R q e g
  unfold qEnum at e
  split at e
  · rename_i ds e1
    have e' := Option.some.inj e
    subst e'
    refine ha F H σ ρ S _ _ q e1 fun us F1 H1 x1 w1 => ?_
    cases w1 with
    | cons w ww =>
      cases ww
      obtain ⟨a, vs, rfl, g1, g2⟩ := w.fzL rfl
      exact ⟨a, vs, rfl, sqL_le x1.fle g1, g _ F1 H1 x1 (walkD_enum (fun F2 H2 p f => ⟨sqL_le f (sqL_sub p g1), g2.sub p⟩) g2.length)⟩
  · cases e
end
end FM
namespace FM
open PySem PySem.Spec L2 PyProof.Rows
/-! ### sorted of ints -/
def sortI (ns : List Int) : List Int := ns.mergeSort (fun a b => decide (a ≤ b))
theorem sortI_perm (ns : List Int) : (sortI ns).Perm ns := List.mergeSort_perm _ _
theorem sortI_sorted (ns : List Int) : (sortI ns).Pairwise (· ≤ ·) := by
  have h := List.pairwise_mergeSort (le := fun a b : Int => decide (a ≤ b)) (fun a b c h1 h2 => by simp at h1 h2 ⊢; omega) (fun a b => by simp; omega) ns
  exact h.imp fun h => by simpa using h
theorem sorted_unique : ∀ {l r : List Int}, l.Perm r → l.Pairwise (· ≤ ·) → r.Pairwise (· ≤ ·) → l = r
  | [], r, p, _, _ => p.nil_eq
  | a :: l, [], p, _, _ => by cases p.eq_nil
  | a :: l, b :: r, p, h1, h2 => by
    have h1' := List.pairwise_cons.mp h1
    have h2' := List.pairwise_cons.mp h2
    have ea : a = b := by
      have m1 : a ∈ b :: r := p.mem_iff.mp List.mem_cons_self
      have m2 : b ∈ a :: l := p.mem_iff.mpr List.mem_cons_self
      rcases List.mem_cons.mp m1 with e | m1
      · exact e
      · rcases List.mem_cons.mp m2 with e | m2
        · exact e.symm
        · exact Int.le_antisymm (h1'.1 b m2) (h2'.1 a m1)
    subst ea
    rw [sorted_unique (List.perm_cons a |>.mp p) h1'.2 h2'.2]
def oSorted : List O → Option O
  | [x] => match seqL x with
    | some ds => match intsD ds with
      | some ns => if ns.length < 64 then some (.lst ((sortI ns).map .int)) else none
      | none => none
    | none => none
  | _ => none
section
variable {k : Kc}
theorem ints_reps {K : Frag} {F : Hp} : ∀ ns : List Int, Reps K F (ns.map V.int) (ns.map .int)
  | [] => .nil
  | n :: ns => .cons (.int n) (ints_reps ns)
theorem cn_sorted : CbN k (rSorted k.K) oSorted := by
  intro F H S xs os o Q f off th ws e h
  unfold oSorted at e
  split at e
  · cases ws with
    | cons w ws =>
      cases ws
      split at e
      · rename_i ds es
        split at e
        · rename_i ns en
          split at e
          · rename_i hz
            have e' := Option.some.inj e
            subst e'
            obtain ⟨a, vs, rfl, g1, g2⟩ := w.seqL f es
            have e3 := intsD_eq en
            subst e3
            rw [reps_ints g2] at g1
            refine ⟨a, ns, rfl, g1, hz, fun ns' p hp hs hn => ?_⟩
            rw [sorted_unique (hp.trans (sortI_perm ns).symm) hs (sortI_sorted ns)]
            exact own_list f (ints_reps (sortI ns)) h p hn
          · cases e
        · cases e
      · cases e
  · cases e
end
/-! ### defs that call themselves -/
theorem CalG.bad {P : Program} {w : World} {K : Frag} {mg : Str → Option Value} {base : Heap} {x qual : Str} {params : Arguments} {body : List Stmt} {scope : Scope} {dvs : List V} {kws : List (Str × V)} {f : Addr} {fd : FuncData} {ps : List Str} {kc : Kc} {n k : Nat} {g : List O → FR} (hg : g = fun _ => .bad)
    (F : FunD K x qual params body scope dvs kws f fd) (hm : mg x = some (.ref f)) (b : Binds K fd ps []) : CalG P w K mg base k x (spM kc n g) := by
  subst hg
  exact ⟨f, fd, ps, ⟨fun vs H Q E h => let ⟨_, _, _, _, _, _, z⟩ := h; z.elim, fun A outer s H args us vs Q E _ _ _ _ h => let ⟨_, _, _, _, _, _, z⟩ := h; z.elim⟩, hm, F.kp, b⟩
end FM
namespace FM
open PySem PySem.Spec L2 PyProof.Rows
/-! ### an empty dict -/
def qDk0 : QE := fun _ => some (.dic [])
def qDt0 : QE := fun _ => some (.dit [])
theorem Qs.newN {k : Kc} {F H : Hp} {σ : L2.St} {ρ : List O} {S : List Addr} (q : Qs k F H σ ρ S) {p : Addr} {ob : HO} (hp : H p = none) (hn : ∀ o u, ob ≠ .frz o u) : Xt F H F (upd H p ob) ∧ Fresh F H (upd H p ob) [p] := by
  refine ⟨Xt.own q.fle hp, ⟨List.nodup_cons.mpr ⟨List.not_mem_nil, .nil⟩, (fun a m => ?_), (fun a m => ?_), (fun a m o u z => ?_)⟩⟩
  · rw [List.mem_singleton.mp m]; exact hp
  · rw [List.mem_singleton.mp m]; exact fle_none q.fle hp
  · rw [List.mem_singleton.mp m, upd_same] at z
    exact hn o u (Option.some.inj z)
theorem ten_dk0 {k : Kc} : TEn k tDNewK qDk0 := by
  intro F H σ ρ S o Q q e h
  have e' := Option.some.inj e
  subst e'
  intro p hp
  obtain ⟨x, fr⟩ := q.newN (ob := .dK []) hp (fun _ _ z => by cases z)
  exact h _ _ _ _ x (.dic (.inl upd_same) .nil) fr
theorem ten_dt0 {k : Kc} : TEn k tDNewT qDt0 := by
  intro F H σ ρ S o Q q e h
  have e' := Option.some.inj e
  subst e'
  intro p hp
  obtain ⟨x, fr⟩ := q.newN (ob := .dT []) hp (fun _ _ z => by cases z)
  exact h _ _ _ _ x (.dit (.inl upd_same) .nil) fr
/-! ### comparisons in a chain -/
end FM
namespace FM
open PySem PySem.Spec L2 PyProof.Rows
/-! ### more words at written-out slots -/
section
variable {ρ : List O} {a b : QE} {r : List O → Option (List O)}
@[simp] theorem qAndV_eq : qAndV a b ρ = match a ρ with
    | some (.fz (.bool true)) => b ρ
    | some (.fz (.bool false)) => some (.fz (.bool false))
    | _ => none := rfl
@[simp] theorem qOrV_eq : qOrV a b ρ = match a ρ with
    | some (.fz (.bool false)) => b ρ
    | some (.fz (.bool true)) => some (.fz (.bool true))
    | _ => none := rfl
@[simp] theorem qNotV_eq : qNotV a ρ = match a ρ with
    | some (.fz (.bool b)) => some (.fz (.bool (!b)))
    | _ => none := rfl
@[simp] theorem qIsi2_eq {n m : String} : qIsi2 n m a ρ = match a ρ with
    | none => none
    | some x => match toPD x with
      | none => none
      | some d => match isTy n d, isTy m d with
        | some b, some c => some (.fz (.bool (b || c)))
        | _, _ => none := rfl
@[simp] theorem qYes_eq : qYes ρ = some true := rfl
@[simp] theorem wipeO_nil : wipeO ρ [] = ρ := rfl
@[simp] theorem wipeO_cons {v : Nat} {vs : List Nat} : wipeO ρ (v :: vs) = (wipeO ρ vs).set v .dead := rfl
@[simp] theorem qLc_eq {qi : QI} {f : QG} {c : List O → Option Bool} {e : QE} {vs : List Nat} : qLc qi f c e vs ρ = match qi ρ with
    | none => none
    | some xs => if xs.length ≤ sizeLine then (lcGo f c e (wipeO ρ vs) xs).map .lst else none := rfl
@[simp] theorem lcGo_nil {f : QG} {c : List O → Option Bool} {e : QE} : lcGo f c e ρ [] = some [] := rfl
theorem lcGo_cons {f : QG} {c : List O → Option Bool} {e : QE} {x : PD} {xs : List PD} : lcGo f c e ρ (x :: xs) = match f x ρ with
    | none => none
    | some ρ1 => match c ρ1 with
      | none => none
      | some false => lcGo f c e ρ xs
      | some true => match e ρ1 with
        | some (.fz d) => (lcGo f c e ρ xs).map fun r => d :: r
        | _ => none := rfl
@[simp] theorem fTup_eq {n : Nat} {f : List PD → List O → Option (List O)} {ds : List PD} : fTup n f (.tuple ds) ρ = if ds.length = n then f ds ρ else none := rfl
@[simp] theorem fCons_eq {f : QG} {g : List PD → List O → Option (List O)} {d : PD} {ds : List PD} : fCons f g (d :: ds) ρ = match f d ρ with
    | none => none
    | some ρ' => g ds ρ' := rfl
@[simp] theorem fNil_eq : fNil [] ρ = some ρ := rfl
@[simp] theorem oIsN_fz {d : PD} : oIsN (.fz d) (.fz .none) = some (.fz (.bool (match d with | .none => true | _ => false))) := by
  cases d <;> rfl
@[simp] theorem oNotN_fz {d : PD} : oNotN (.fz d) (.fz .none) = some (.fz (.bool (match d with | .none => false | _ => true))) := by
  cases d <;> rfl
@[simp] theorem oIsB_b {x y : Bool} : oIsB (.fz (.bool x)) (.fz (.bool y)) = some (.fz (.bool (decide (x = y)))) := rfl
@[simp] theorem oNotB_b {x y : Bool} : oNotB (.fz (.bool x)) (.fz (.bool y)) = some (.fz (.bool (!decide (x = y)))) := rfl
@[simp] theorem qItA_eq : qItA a ρ = match a ρ with
    | none => none
    | some x => viA x := rfl
@[simp] theorem viA_l {ds : List PD} : viA (.fz (.list ds)) = some ds := rfl
@[simp] theorem viA_t {ds : List PD} : viA (.fz (.tuple ds)) = some ds := rfl
@[simp] theorem viA_lst {ds : List PD} : viA (.lst ds) = some ds := rfl
@[simp] theorem qNo_eq : qNo ρ = some none := rfl
@[simp] theorem qPart_eq : qPart a ρ = match a ρ with
    | some (.fz (.int i)) => some (some i)
    | _ => none := rfl
@[simp] theorem qSl_eq {lo hi : List O → Option (Option Int)} : qSl a lo hi ρ = match a ρ with
    | none => none
    | some x => match lo ρ with
      | none => none
      | some l => match hi ρ with
        | none => none
        | some u => oSl x l u := rfl
@[simp] theorem oSl_t {ds : List PD} {lo hi : Option Int} : oSl (.fz (.tuple ds)) lo hi = some (.fz (.tuple (cut ds lo hi))) := rfl
@[simp] theorem boolsD_nil : boolsD [] = some [] := rfl
@[simp] theorem boolsD_cons {x : Bool} {ds : List PD} : boolsD (.bool x :: ds) = (boolsD ds).map (x :: ·) := rfl
@[simp] theorem intsD_nil : intsD [] = some [] := rfl
@[simp] theorem intsD_cons {x : Int} {ds : List PD} : intsD (.int x :: ds) = (intsD ds).map (x :: ·) := rfl
@[simp] theorem oAll_l {ds : List PD} : oAll [.fz (.list ds)] = (boolsD ds).map fun bs => .fz (.bool (bs.all id)) := rfl
@[simp] theorem oAny_l {ds : List PD} : oAny [.fz (.list ds)] = (boolsD ds).map fun bs => .fz (.bool (bs.any id)) := rfl
@[simp] theorem oAll_lst {ds : List PD} : oAll [.lst ds] = (boolsD ds).map fun bs => .fz (.bool (bs.all id)) := rfl
@[simp] theorem oAny_lst {ds : List PD} : oAny [.lst ds] = (boolsD ds).map fun bs => .fz (.bool (bs.any id)) := rfl
@[simp] theorem oSum_l {ds : List PD} : oSum [.fz (.list ds)] = match intsD ds with
    | some ns => some (.fz (.int ns.sum))
    | none => none := by
  show (match intsD ds with | some ns => (some (PyData.int ns.sum)).map O.fz | none => none) = _
  cases intsD ds <;> rfl
@[simp] theorem oSum_lst {ds : List PD} : oSum [.lst ds] = match intsD ds with
    | some ns => some (.fz (.int ns.sum))
    | none => none := by
  show (match intsD ds with | some ns => (some (PyData.int ns.sum)).map O.fz | none => none) = _
  cases intsD ds <;> rfl
@[simp] theorem oEq_b {x y : Bool} : oEq (.fz (.bool x)) (.fz (.bool y)) = some (.fz (.bool (decide (x = y)))) := by
  cases x <;> cases y <;> simp [oEq, oEqD, strs2, SeqAt.shaped, PyData.canLay0, PyData.depth, PyData.eqv]
@[simp] theorem oNe_b {x y : Bool} : oNe (.fz (.bool x)) (.fz (.bool y)) = some (.fz (.bool (!decide (x = y)))) := by
  cases x <;> cases y <;> simp [oNe, oNeD, strs2, SeqAt.shaped, PyData.canLay0, PyData.depth, PyData.eqv]
@[simp] theorem qDk0_eq : qDk0 ρ = some (.dic []) := rfl
@[simp] theorem toPD_dic {ds : List (Key × PD)} : toPD (.dic ds) = some (.dict (ds.map kp)) := rfl
@[simp] theorem oAdd_tt {xs ys : List PD} : oAdd (.fz (.tuple xs)) (.fz (.tuple ys)) = if xs.length + ys.length ≤ sizeLine then some (.fz (.tuple (xs ++ ys))) else none := rfl
@[simp] theorem oAdd_ll {xs ys : List PD} : oAdd (.fz (.list xs)) (.fz (.list ys)) = if xs.length + ys.length ≤ sizeLine then some (.fz (.list (xs ++ ys))) else none := rfl
end
/-- a comprehension, item by item -/
theorem lcGo_all {f : QG} {c : List O → Option Bool} {e : QE} {ρ : List O} {p : PD → Bool} {h : PD → PD} : ∀ {xs : List PD}, (∀ x ∈ xs, ∃ ρ1, f x ρ = some ρ1 ∧ c ρ1 = some (p x) ∧ (p x = true → e ρ1 = some (.fz (h x)))) → lcGo f c e ρ xs = some ((xs.filter p).map h)
  | [], _ => rfl
  | x :: xs, hx => by
    obtain ⟨ρ1, e1, e2, e3⟩ := hx x List.mem_cons_self
    have ih := lcGo_all (xs := xs) fun y m => hx y (List.mem_cons_of_mem _ m)
    rw [lcGo_cons, e1]
    simp only [e2]
    cases hp : p x with
    | false => simp [ih, hp]
    | true => simp [ih, hp, e3 hp]
theorem lcGo_map {f : QG} {e : QE} {ρ : List O} {h : PD → PD} {xs : List PD} (hx : ∀ x ∈ xs, ∃ ρ1, f x ρ = some ρ1 ∧ e ρ1 = some (.fz (h x))) : lcGo f qYes e ρ xs = some (xs.map h) := by
  have := lcGo_all (f := f) (c := qYes) (e := e) (ρ := ρ) (p := fun _ => true) (h := h) (xs := xs) fun x m => by
    obtain ⟨ρ1, e1, e2⟩ := hx x m
    exact ⟨ρ1, e1, rfl, fun _ => e2⟩
  rw [this, show xs.filter (fun _ => true) = xs from List.filter_eq_self.mpr fun _ _ => rfl]
/-! ### plain data, to a depth -/
def plainD : Nat → PD → Prop
  | _, .none => True
  | _, .bool _ => True
  | _, .int _ => True
  | _, .str _ => True
  | n + 1, .list ds => ds.length ≤ sizeLine ∧ ∀ x ∈ ds, plainD n x
  | n + 1, .tuple ds => ds.length ≤ sizeLine ∧ ∀ x ∈ ds, plainD n x
  | _, _ => False
theorem zip_self : ∀ ds : List PD, zipD ds ds = ds.map fun x => pairD x x
  | [] => rfl
  | d :: ds => congrArg (pairD d d :: ·) (zip_self ds)
theorem boolsD_true {α : Type} (xs : List α) : boolsD (xs.map fun _ => .bool true) = some (xs.map fun _ => true) := by
  have := boolsD_map (xs.map fun _ => true)
  rwa [List.map_map] at this
end FM
namespace FM
open PySem PySem.Spec L2 PyProof.Rows
/-! ### zip of lists and tuples in any mix -/
def SqB (b : Bool) (K : Frag) (H : Hp) (a : Addr) (xs : List V) : Prop := match b with
  | true => SqL K H a xs
  | false => SqT K H a xs
def AtB (b : Bool) (h : Heap) (a : Addr) (its : Array Value) : Prop := match b with
  | true => h.IsList a its
  | false => h.IsTuple a its
def IterB (b : Bool) (h : Heap) (it a : Addr) (i : Nat) : Prop := match b with
  | true => h.IsListIter it a i
  | false => h.IsTupleIter it a i
theorem sqB_inv {X : Cx} {pins : List (Addr × Obj)} {σ : L2.St} {H : Hp} {s : Shared} {b : Bool} {a : Addr} {xs : List V} (I : Inv X pins σ H s) (h : SqB b X.K H a xs) : ∃ its : List Value, Vals xs its ∧ AtB b s.heap a its.toArray := by
  cases b with
  | true =>
    obtain ⟨its, rv, p, _⟩ := I.list h
    exact ⟨its, rv, p.isList⟩
  | false =>
    obtain ⟨its, rv, p, _⟩ := I.tuple h
    exact ⟨its, rv, p⟩
theorem sqB_inj {X : Cx} {pins : List (Addr × Obj)} {σ : L2.St} {H : Hp} {s : Shared} {b : Bool} {a : Addr} {xs ys : List V} (I : Inv X pins σ H s) (h1 : SqB b X.K H a xs) (h2 : SqB b X.K H a ys) : xs = ys := by
  cases b with
  | true => exact I.list_inj h1 h2
  | false => exact I.tuple_inj h1 h2
section
variable {P : Program} {w : World} {A : Around} {it a : Addr} {items : Array Value}
theorem IterB.at {b : Bool} {h h' : Heap} {i : Nat} (x : IterB b h it a i) (k : ∀ o, h.get? it = some o → h'.get? it = some o) : IterB b h' it a i := by
  cases b with
  | true => exact Heap.IsListIter.at x k
  | false => exact Heap.IsTupleIter.at x k
theorem AtB.at {b : Bool} {h h' : Heap} (x : AtB b h a items) (k : ∀ o, h.get? a = some o → h'.get? a = some o) : AtB b h' a items := by
  cases b with
  | true => exact Heap.IsList.at x k
  | false => exact Heap.IsTuple.at x k
theorem IterB.ob {b : Bool} {h : Heap} {i : Nat} (x : IterB b h it a i) : ∃ o, h.get? it = some o ∧ ∀ v, o.data ≠ .cell v := by
  cases b with
  | true => obtain ⟨o, e, _, d⟩ := x; exact ⟨o, e, fun v q => by rw [d] at q; cases q⟩
  | false => obtain ⟨o, e, _, d⟩ := x; exact ⟨o, e, fun v q => by rw [d] at q; cases q⟩
theorem AtB.lt {b : Bool} {h : Heap} (x : AtB b h a items) : a < h.objs.size := by
  cases b with
  | true => obtain ⟨o, e, _⟩ := x; exact Heap.lt_size e
  | false => obtain ⟨o, e, _⟩ := x; exact Heap.lt_size e
theorem drawsB (b : Bool) (hh : A.handled = none) (hne : a ≠ it) : Draws P w A it [it, a] items.size (fun i v => items[i]? = some v) (fun i h => IterB b h it a i ∧ AtB b h a items) := by
  cases b with
  | true => exact Draws.list hh it a hne items
  | false => exact Draws.tuple hh it a hne items
/-- where it has come to its end -/
theorem drawsEnd (b : Bool) (hh : A.handled = none) {i : Nat} (hi : items[i]? = none) : Draws P w A it [it, a] i (fun _ _ => False) (fun j h => j = i ∧ IterB b h it a i ∧ AtB b h a items) where
  live := fun j h st => let ⟨o, e, _⟩ := st.2.1.ob; ⟨o, e⟩
  frame := fun j h h' st k => ⟨st.1, st.2.1.at (k it List.mem_cons_self), st.2.2.at (k a (by simp))⟩
  item := fun j s Q E hj st hQ => absurd st.1 (Nat.ne_of_lt hj)
  done := fun s Q E st hE => by
    cases b with
    | true => exact wpAny_nextOf_list_end hh st.2.1 st.2.2 hi hE
    | false => exact wpAny_nextOf_tuple_end hh st.2.1 st.2.2 hi hE
theorem beginsB (b : Bool) (a : Addr) (items : Array Value) : ∃ o, Begins (.ref a) o (fun h => AtB b h a items) ∧ ∀ (h : Heap) (it : Addr), h.get? it = some o → IterB b h it a 0 := by
  cases b with
  | true => exact ⟨_, begins_list a items, fun h it e => ⟨_, e, rfl, rfl⟩⟩
  | false => exact ⟨_, begins_tuple a items, fun h it e => ⟨_, e, rfl, rfl⟩⟩
end
def Itm (K : Frag) (b1 b2 : Bool) (a b : Addr) : It :=
  ⟨fun i H => ∃ (xs ys : List V) (x y : V), SqB b1 K H a xs ∧ SqB b2 K H b ys ∧ xs[i]? = some x ∧ ys[i]? = some y,
    fun i H v H' => ∃ (T : Addr) (x y : V), v = .ref T ∧ H T = none ∧ H' = upd H T (.tup [x, y]) ∧ (∀ xs, SqB b1 K H a xs → xs[i]? = some x) ∧ ∀ ys, SqB b2 K H b ys → ys[i]? = some y,
    fun i H => ∃ xs ys : List V, SqB b1 K H a xs ∧ SqB b2 K H b ys ∧ (xs.length ≤ i ∨ ys.length ≤ i)⟩
def tnM (b1 b2 : Bool) (z TI TO i1 i2 a b : Addr) (i : Nat) (h : Heap) : Prop := IsZip h z TI TO .none ∧ IsTupOf2 h TI (.ref i1) (.ref i2) ∧ (∃ x y, IsTupOf2 h TO x y) ∧ IterB b1 h i1 a i ∧ IterB b2 h i2 b i
theorem turn_zipM {P : Program} {w : World} {K : Frag} {elts : List Expr} {kk : Nat} {tpos : Pos} {b1 b2 : Bool} {a b z TI TO i1 i2 : Addr} (S : ZipSep2 z TI TO i1 i2 [i1, a] [i2, b]) (ha : a ≠ i1) (hb : b ≠ i2) :
    Turn P w K (.Tuple elts kk tpos) (Itm K b1 b2 a b) [z, TI, TO, i1, i2] z (tnM b1 b2 z TI TO i1 i2 a b) where
  mem := List.mem_cons_self
  obj := fun i h st c hc => by
    obtain ⟨q1, q2, ⟨x, y, q3⟩, q4, q5⟩ := st
    simp only [List.mem_cons, List.not_mem_nil, or_false] at hc
    rcases hc with rfl | rfl | rfl | rfl | rfl
    · exact ⟨_, q1, fun v q => by cases q⟩
    · exact ⟨_, q2, fun v q => by cases q⟩
    · exact ⟨_, q3, fun v q => by cases q⟩
    · exact q4.ob
    · exact q5.ob
  keep := fun i h h' st k => by
    obtain ⟨q1, q2, ⟨x, y, q3⟩, q4, q5⟩ := st
    exact ⟨k z List.mem_cons_self _ q1, k TI (by simp) _ q2, ⟨x, y, k TO (by simp) _ q3⟩, q4.at (k i1 (by simp)), q5.at (k i2 (by simp))⟩
  item := by
    rintro X rfl rfl rfl hc i pins s σ H E I hf ⟨q1, q2, q3, q4, q5⟩ ⟨xs, ys, x, y, g1, g2, e1, e2⟩
    obtain ⟨its1, r1, p1⟩ := sqB_inv I g1
    obtain ⟨its2, r2, p2⟩ := sqB_inv I g2
    obtain ⟨u1, o1, w1⟩ := r1.get e1
    obtain ⟨u2, o2, w2⟩ := r2.get e2
    have hd : X.A.in1.handled = none := I.ok.hd hc
    have l1 : i < its1.length := (List.getElem?_eq_some_iff.mp o1).1
    have l2 : i < its2.length := (List.getElem?_eq_some_iff.mp o2).1
    have G := GoesN.zip2 (elts := elts) (x1 := kk) (pos := tpos) S (drawsB (P := X.prog) (w := X.w) (items := its1.toArray) b1 hd ha) (drawsB (P := X.prog) (w := X.w) (items := its2.toArray) b2 hd hb)
    refine G.goes i s (fun u s2 => ∃ x H', Inv X pins σ H' s2 ∧ RelV x u ∧ (Itm X.K b1 b2 a b).yld i H x H' ∧ tnM b1 b2 z TI TO i1 i2 a b (i + 1) s2.heap ∧ ∀ b ∈ [z, TI, TO, i1, i2], H' b = none) E (by simp; omega) ⟨q1, q2, q3, ⟨q4, p1⟩, ⟨q5, p2⟩⟩ ?_
    rintro v h' tk ⟨T, v1, v2, rfl, hT, a1, a2, c⟩ ⟨t1, t2, t3, t4, t5⟩ hk htk
    rw [List.getElem?_toArray, o1] at a1
    rw [List.getElem?_toArray, o2] at a2
    cases a1
    cases a2
    obtain ⟨oT, c1, c2, c3, c4⟩ := c
    have mk : ObjOk X.prog X.w (upd H T (.tup [x, y])) h' T (.tup [x, y]) := ⟨show 2 ≤ sizeLine by decide, [u1, u2], .cons w1 (.cons w2 .nil), oT, c1, c2, c3, c4⟩
    have I2 := I.turnedNew (t' := tk) (ch := [z, TI, TO, i1, i2]) (fun c o nc q => hk c o (fun m => nc (by simp at m ⊢; rcases m with m | m | m | m <;> simp [m])) q) hf hT mk
    refine ⟨.ref T, _, I2, rfl, ⟨T, x, y, rfl, I.hok.fresh hT, rfl, fun l hl => by rw [sqB_inj I hl g1]; exact e1, fun l hl => by rw [sqB_inj I hl g2]; exact e2⟩, ⟨t1, t2, t3, t4.1, t5.1⟩, fun c hm => ?_⟩
    obtain ⟨oc, ec, _⟩ : ∃ o, s.heap.get? c = some o ∧ True := by
      simp only [List.mem_cons, List.not_mem_nil, or_false] at hm
      rcases hm with rfl | rfl | rfl | rfl | rfl
      · exact ⟨_, q1, trivial⟩
      · exact ⟨_, q2, trivial⟩
      · obtain ⟨_, _, q3⟩ := q3; exact ⟨_, q3, trivial⟩
      · obtain ⟨o, e, _⟩ := q4.ob; exact ⟨o, e, trivial⟩
      · obtain ⟨o, e, _⟩ := q5.ob; exact ⟨o, e, trivial⟩
    have : c < T := Nat.lt_of_lt_of_le (Heap.lt_size ec) hT
    rw [upd_ne (Nat.ne_of_lt this)]
    exact (hf c hm).1
  done := by
    rintro X rfl rfl rfl hc i pins s σ H E I hf ⟨q1, q2, q3, q4, q5⟩ ⟨xs, ys, g1, g2, hz⟩
    obtain ⟨its1, r1, p1⟩ := sqB_inv I g1
    obtain ⟨its2, r2, p2⟩ := sqB_inv I g2
    have hd : X.A.in1.handled = none := I.ok.hd hc
    have n1 := r1.length
    have n2 := r2.length
    have fin : ∀ h' tk, (∀ b o, b ∉ [z, TO, i1, i2] → s.heap.get? b = some o → h'.get? b = some o) → s.toks ≤ tk → Inv X pins σ H { s with heap := h', toks := tk } := fun h' tk hk _ =>
      I.turnedL (t' := tk) (ch := [z, TI, TO, i1, i2]) (fun c o nc q => hk c o (fun m => nc (by simp at m ⊢; rcases m with m | m | m | m <;> simp [m])) q) hf
    by_cases c1 : xs.length ≤ i
    · have k1 : its1.toArray[i]? = none := by simp; omega
      by_cases c2 : ys.length ≤ i
      · have k2 : its2.toArray[i]? = none := by simp; omega
        have G := GoesN.zip2 (elts := elts) (x1 := kk) (pos := tpos) S (drawsEnd (P := X.prog) (w := X.w) (it := i1) (a := a) b1 hd k1) (drawsEnd (P := X.prog) (w := X.w) (it := i2) (a := b) b2 hd k2)
        exact G.stops s _ E (by rw [Nat.min_self]; exact ⟨q1, q2, q3, ⟨rfl, q4, p1⟩, ⟨rfl, q5, p2⟩⟩) fin
      · have G := GoesN.zip2 (elts := elts) (x1 := kk) (pos := tpos) S (drawsEnd (P := X.prog) (w := X.w) (it := i1) (a := a) b1 hd k1) (drawsB (P := X.prog) (w := X.w) (items := its2.toArray) b2 hd hb)
        have e : min i its2.toArray.size = i := by simp; omega
        exact G.stops s _ E (by rw [e]; exact ⟨q1, q2, q3, ⟨rfl, q4, p1⟩, ⟨q5, p2⟩⟩) fin
    · have k2 : its2.toArray[i]? = none := by simp; omega
      have G := GoesN.zip2 (elts := elts) (x1 := kk) (pos := tpos) S (drawsB (P := X.prog) (w := X.w) (items := its1.toArray) b1 hd ha) (drawsEnd (P := X.prog) (w := X.w) (it := i2) (a := b) b2 hd k2)
      have e : min its1.toArray.size i = i := by simp; omega
      exact G.stops s _ E (by rw [e]; exact ⟨q1, q2, q3, ⟨q4, p1⟩, ⟨rfl, q5, p2⟩⟩) fin
  self := fun A i s Q E st h => wpAny_pyIter_zip st.1 h
def iZipM (K : Frag) (ta : TA) : TI := fun σ H R => ta σ H fun vs H1 => ∃ (a b : Addr) (b1 b2 : Bool) (xs ys : List V), vs = [.ref a, .ref b] ∧ SqB b1 K H1 a xs ∧ SqB b2 K H1 b ys ∧ R (Itm K b1 b2 a b) H1
theorem pi_zipM {X : Cx} {e e2 : Expr} {ta : TA} {p pos tpos : Pos} {elts : List Expr} {kk : Nat} (hg : Gl X "zip") (hm : X.mg "zip" = none) (ha : PA X [e, e2] ta)
    (hs : starEach [e, e2] X.env = (false, eval e X.env) :: starEach [e2] X.env := by rfl) (hpl : (backTo pos (starEach [e2] X.env)).any (·.1) = false := by rfl) :
    PI X (.Tuple elts kk tpos) (.Call (.Name "zip" p) [e, e2] [] pos) (iZipM X.K ta) := by
  refine ⟨fun pins s σ H R I h => Call_ (ld_blt I hg hm PyProof.Rows.boot_zip (PyProof.Rows.callWith_type1 (thn (ha.run pos pins s σ H _ I h) fun us s1 ⟨vs, H1, I1, r1, q1⟩ => ?_) hs hpl))⟩
  obtain ⟨a, b, b1, b2, xs, ys, rfl, g1, g2, q⟩ := q1
  cases r1 with
  | cons r rr =>
    cases rr with
    | cons r' rr =>
      cases rr
      cases r
      cases r'
      obtain ⟨its1, _, p1⟩ := sqB_inv I1 g1
      obtain ⟨its2, _, p2⟩ := sqB_inv I1 g2
      obtain ⟨o1, B1, it1⟩ := beginsB b1 a its1.toArray
      obtain ⟨o2, B2, it2⟩ := beginsB b2 b its2.toArray
      have la := p1.lt
      have lb := p2.lt
      refine zip_begins2 B1 B2 p1 p2 fun h' k1 k2 k3 k4 k5 hsz hk => wpAny_pyIter_zip k1 ?_
      have S := zip_sep2 (N := s1.heap.objs.size) (fp1 := [a]) (fp2 := [b]) (fun c m => by rw [List.mem_singleton.mp m]; exact la) (fun c m => by rw [List.mem_singleton.mp m]; exact lb)
      refine ⟨s1.heap.objs.size + 4, [s1.heap.objs.size + 4, s1.heap.objs.size + 2, s1.heap.objs.size + 3, s1.heap.objs.size, s1.heap.objs.size + 1], tnM b1 b2 _ _ _ _ _ a b, _, H1, rfl, I1.kept (t' := s1.toks) hk,
        turn_zipM S (Nat.ne_of_lt la) (Nat.ne_of_lt (Nat.lt_succ_of_lt lb)), ⟨k1, k2, ⟨_, _, k3⟩, it1 _ _ k4, it2 _ _ k5⟩, fun c hc => ?_, q⟩
      have hle : s1.heap.objs.size ≤ c := by
        simp only [List.mem_cons, List.not_mem_nil, or_false] at hc
        rcases hc with rfl | rfl | rfl | rfl | rfl
        · exact Nat.le_add_right _ _
        · exact Nat.le_add_right _ _
        · exact Nat.le_add_right _ _
        · exact Nat.le_refl _
        · exact Nat.le_add_right _ _
      exact I1.fpOk hle (I1.hok.fresh hle)
def qZipV (r : List O → Option (List O)) : QI := fun ρ => match r ρ with
  | some [x, y] => match viA x, viA y with
    | some ds, some es => some (zipD ds es)
    | _, _ => none
  | _ => none
def qZipF (r : List O → Option (List O)) : QI := fun ρ => match r ρ with
  | some [x, y] => match fzA x, fzA y with
    | some ds, some es => some (zipD ds es)
    | _, _ => none
  | _ => none
section
variable {k : Kc} {P : Hp → Hp → Prop} {a b : Addr} {vs ws : List V} {ds es : List PD}
theorem walkD_zipM {b1 b2 : Bool} (hs : ∀ F H, P F H → FLe F H → SqB b1 k.K H a vs ∧ Reps k.K F vs ds ∧ SqB b2 k.K H b ws ∧ Reps k.K F ws es) (l1 : vs.length = ds.length) (l2 : ws.length = es.length) : WalkD k P (Itm k.K b1 b2 a b) (zipD ds es) := by
  refine ⟨fun i F H hi p f => ?_, fun F H p f => ?_, fun i F H x H' hi p f y => ?_⟩
  · obtain ⟨h1, h2, _⟩ := zip_at hi
    obtain ⟨s1, r1, s2, r2⟩ := hs F H p f
    exact ⟨vs, ws, vs[i], ws[i], s1, s2, List.getElem?_eq_getElem (by omega), List.getElem?_eq_getElem (by omega)⟩
  · obtain ⟨s1, r1, s2, r2⟩ := hs F H p f
    refine ⟨vs, ws, s1, s2, ?_⟩
    have : (zipD ds es).length = min ds.length es.length := by simp [zipD]
    omega
  · obtain ⟨h1, h2, h3⟩ := zip_at hi
    obtain ⟨s1, r1, s2, r2⟩ := hs F H p f
    obtain ⟨T, x1, y1, rfl, hT, rfl, e1, e2⟩ := y
    obtain ⟨v, g1, g2⟩ := r1.get (i := i) (d := ds[i]) (by simp [h1])
    obtain ⟨w, g3, g4⟩ := r2.get (i := i) (d := es[i]) (by simp [h2])
    rw [e1 vs s1] at g1
    rw [e2 ws s2] at g3
    cases g1
    cases g3
    rw [h3]
    exact pair_new f hT g2 g4
theorem sqB_sub {K : Frag} {F H F' H' : Hp} {b : Bool} {a : Addr} {xs : List V} (x : Xt F H F' H') (h : SqB b K H a xs) : SqB b K H' a xs := by
  cases b with
  | true => exact sqL_sub x.ex h
  | false => exact sqT_sub x.ex h
theorem vw_seqB {F H : Hp} {S : List Addr} {v : V} {o : O} {ds : List PD} (f : FLe F H) (w : Vw k F H S v o) (e : viA o = some ds) : ∃ (b : Bool) (a : Addr) (vs : List V), v = .ref a ∧ SqB b k.K H a vs ∧ Reps k.K F vs ds := by
  rcases viA_or e with e | e
  · obtain ⟨a, vs, rfl, g1, g2⟩ := w.seqL f e
    exact ⟨true, a, vs, rfl, g1, g2⟩
  · obtain ⟨a, vs, rfl, g1, g2⟩ := w.seqR f e
    exact ⟨false, a, vs, rfl, g1, g2⟩
theorem vw_fzB {F H : Hp} {S : List Addr} {v : V} {o : O} {ds : List PD} (w : Vw k F H S v o) (e : fzA o = some ds) : ∃ (b : Bool) (a : Addr) (vs : List V), v = .ref a ∧ (∀ F', Same F F' → SqB b k.K F' a vs) ∧ Reps k.K F vs ds := by
  rcases fzA_or e with e | e
  · obtain ⟨a, vs, rfl, g1, g2⟩ := w.fzL e
    exact ⟨true, a, vs, rfl, fun F' p => sqL_sub p g1, g2⟩
  · obtain ⟨a, vs, rfl, g1, g2⟩ := w.fzR e
    exact ⟨false, a, vs, rfl, fun F' p => g1 F' p, g2⟩
theorem sqB_le {K : Frag} {F H : Hp} {b : Bool} {a : Addr} {xs : List V} (f : FLe F H) (h : SqB b K F a xs) : SqB b K H a xs := by
  cases b with
  | true => exact sqL_le f h
  | false => exact sqT_le f h
theorem tiv_zip {ta : TA} {qs : List O → Option (List O)} (ha : TAv k ta qs) : TIv k (iZipM k.K ta) (qZipV qs) := by
  intro F H σ ρ S xs R q e g
  unfold qZipV at e
  split at e
  · rename_i x y e1
    split at e
    · rename_i ds es d1 d2
      cases e
      refine ha F H σ ρ S _ _ q e1 fun us F1 H1 x1 w1 => ?_
      cases w1 with
      | cons w ww =>
        cases ww with
        | cons w' ww =>
          cases ww
          obtain ⟨b1, a, vs, rfl, g1, g2⟩ := vw_seqB x1.fle w d1
          obtain ⟨b2, b, ws, rfl, g3, g4⟩ := vw_seqB x1.fle w' d2
          exact ⟨a, b, b1, b2, vs, ws, rfl, g1, g3, g _ F1 H1 x1 (walkD_zipM (fun F2 H2 p f => ⟨sqB_sub p g1, g2.sub p.sub, sqB_sub p g3, g4.sub p.sub⟩) g2.length g4.length)⟩
    · cases e
  · cases e
theorem tif_zipM {ta : TA} {qs : List O → Option (List O)} (ha : TAv k ta qs) : TIf k (iZipM k.K ta) (qZipF qs) := by
  intro F H σ ρ S xs R q e g
  unfold qZipF at e
  split at e
  · rename_i x y e1
    split at e
    · rename_i ds es d1 d2
      cases e
      refine ha F H σ ρ S _ _ q e1 fun us F1 H1 x1 w1 => ?_
      cases w1 with
      | cons w ww =>
        cases ww with
        | cons w' ww =>
          cases ww
          obtain ⟨b1, a, vs, rfl, g1, g2⟩ := vw_fzB w d1
          obtain ⟨b2, b, ws, rfl, g3, g4⟩ := vw_fzB w' d2
          exact ⟨a, b, b1, b2, vs, ws, rfl, sqB_le x1.fle (g1 F1 (Same.refl _)), sqB_le x1.fle (g3 F1 (Same.refl _)), g _ F1 H1 x1 (walkD_zipM (fun F2 H2 p f => ⟨sqB_le f (g1 F2 p), g2.sub p, sqB_le f (g3 F2 p), g4.sub p⟩) g2.length g4.length)⟩
    · cases e
  · cases e
end
section
variable {ρ : List O} {r : List O → Option (List O)}
@[simp] theorem qZipV_eq : qZipV r ρ = match r ρ with
    | some [x, y] => match viA x, viA y with
      | some ds, some es => some (zipD ds es)
      | _, _ => none
    | _ => none := rfl
@[simp] theorem qZipF_eq : qZipF r ρ = match r ρ with
    | some [x, y] => match fzA x, fzA y with
      | some ds, some es => some (zipD ds es)
      | _, _ => none
    | _ => none := rfl
end
end FM
namespace FM
open PySem PySem.Spec L2 PyProof.Rows
/-! ### facts for the laws -/
def up (n b : Int) : Int := (n + b - 1) / b * b
def thD (p : Int × Int) : PD := .tuple [.int p.1, .int p.2]
theorem pickI {xs : List Int} {lo hi i : Int} (h : ∀ x ∈ xs, lo ≤ x ∧ x ≤ hi) (h0 : 0 ≤ i) (h1 : i < xs.length) : ∃ z, lo ≤ z ∧ z ≤ hi ∧ atI (xs.map PyData.int) i = some (.int z) := by
  have e : i.toNat < xs.length := by omega
  have m := h _ (List.getElem_mem e)
  refine ⟨_, m.1, m.2, ?_⟩
  rw [atI_nn h0, List.getElem?_map, List.getElem?_eq_getElem e]
  rfl
def okT (ts : List (Int × Int)) : Prop := ∀ p ∈ ts, 1 ≤ p.1 ∧ p.1 ≤ 10 ^ 9 ∧ 1 ≤ p.2 ∧ p.2 ≤ 64
theorem at_th {ts : List (Int × Int)} {t : Nat} (h : t < ts.length) : atI (ts.map thD) (t : Int) = some (.tuple [.int (ts.getD t (1, 1)).1, .int (ts.getD t (1, 1)).2]) := by
  rw [atI_nn (by omega), List.getElem?_map]
  simp [thD, h]
theorem okT_at {ts : List (Int × Int)} {t : Nat} (o : okT ts) (h : t < ts.length) : 1 ≤ (ts.getD t (1, 1)).1 ∧ (ts.getD t (1, 1)).1 ≤ 10 ^ 9 ∧ 1 ≤ (ts.getD t (1, 1)).2 ∧ (ts.getD t (1, 1)).2 ≤ 64 := by
  apply o
  rw [List.getD_eq_getElem?_getD, List.getElem?_eq_getElem h]
  exact List.getElem_mem h
def natD (t : Nat) : PD := .int (t : Int)
theorem canLay_ints : ∀ l : List Int, PyData.canLayAll0 (l.map .int) = true
  | [] => by simp [PyData.canLayAll0]
  | i :: l => by simp [PyData.canLayAll0, PyData.canLay0, canLay_ints l]
theorem depth_ints : ∀ l : List Int, PyData.depthAll (l.map .int) = 0
  | [] => by simp [PyData.depthAll]
  | i :: l => by simp [PyData.depthAll, PyData.depth, depth_ints l]
theorem shaped_ints (l : List Int) : SeqAt.shaped (.list (l.map .int)) = true := by
  simp [SeqAt.shaped, PyData.canLay0, PyData.depth, canLay_ints, depth_ints]
theorem eqvAll_ints : ∀ l r : List Int, PyData.eqvAll (l.map .int) (r.map .int) = decide (l = r)
  | [], [] => by simp [PyData.eqvAll]
  | [], _ :: _ => by simp [PyData.eqvAll]
  | _ :: _, [] => by simp [PyData.eqvAll]
  | a :: l, b :: r => by
    simp only [List.map_cons, PyData.eqvAll, PyData.eqv, eqvAll_ints l r, beq_dec]
    rw [Bool.eq_iff_iff]
    simp
theorem eqv_ints (l r : List Int) : PyData.eqv (.list (l.map .int)) (.list (r.map .int)) = decide (l = r) := by
  rw [PyData.eqv, eqvAll_ints]
theorem strs2_none {x y : O} {l r : List PD} (h1 : toPD x = some (.list l)) : strs2 x y = none := by
  unfold strs2
  split
  · cases h1
  · rfl
theorem oNe_ints {x y : O} {l r : List Int} (h1 : toPD x = some (.list (l.map .int))) (h2 : toPD y = some (.list (r.map .int))) : oNe x y = some (.fz (.bool (!decide (l = r)))) := by
  unfold oNe oNeD
  rw [strs2_none (r := []) h1, h1, h2]
  simp [shaped_ints, eqv_ints]
theorem oEq_ints {x y : O} {l r : List Int} (h1 : toPD x = some (.list (l.map .int))) (h2 : toPD y = some (.list (r.map .int))) : oEq x y = some (.fz (.bool (decide (l = r)))) := by
  unfold oEq oEqD
  rw [strs2_none (r := []) h1, h1, h2]
  simp [shaped_ints, eqv_ints]
@[simp] theorem oNe_s {a b : Str} : oNe (.fz (.str a)) (.fz (.str b)) = some (.fz (.bool (!decide (a = b)))) := rfl
@[simp] theorem oEq_s {a b : Str} : oEq (.fz (.str a)) (.fz (.str b)) = some (.fz (.bool (decide (a = b)))) := rfl
theorem fPopAt_i {ds : List PD} {r : Int} (h0 : 0 ≤ r) (h1 : r < ds.length) (h2 : ds.length < 2 ^ 60) : ∃ d, ds[r.toNat]? = some d ∧ fPopAt ds [.int r] = some (d, ds.eraseIdx r.toNat) := by
  have e : r.toNat < ds.length := by omega
  refine ⟨ds[r.toNat], List.getElem?_eq_getElem e, ?_⟩
  have hb : big62 r = true := big62_of (by omega) (by omega)
  simp [fPopAt, hb, seqIndex_of h0 h1, List.getElem?_eq_getElem e]
theorem map_erase {α β : Type} (f : α → β) : ∀ (l : List α) (k : Nat), (l.map f).eraseIdx k = (l.eraseIdx k).map f
  | [], _ => rfl
  | _ :: _, 0 => rfl
  | a :: l, k + 1 => congrArg (f a :: ·) (map_erase f l k)
theorem up_mod {e b : Int} : up e b % b = 0 := Int.mul_emod_left _ _
theorem up_is {e b : Int} (hb : 0 < b) : e ≤ up e b ∧ up e b < e + b := by
  have h1 := Int.emod_nonneg (e + b - 1) (by omega : b ≠ 0)
  have h2 := Int.emod_lt_of_pos (e + b - 1) hb
  have h3 := Int.ediv_mul_add_emod (e + b - 1) b
  unfold up
  omega
theorem up_eq {e b p : Int} (hb : 0 < b) (h1 : e ≤ p) (h2 : p ≤ up e b) (h3 : p % b = 0) : p = up e b := by
  obtain ⟨u1, u2⟩ := up_is (e := e) hb
  have hm : (up e b - p) % b = 0 := by rw [Int.sub_emod, up_mod, h3]; simp
  rw [Int.emod_eq_of_lt (by omega) (by omega)] at hm
  omega
theorem cut_map {xs : List Int} {hi : Option Int} : cut (xs.map PyData.int) none hi = (cut xs none hi).map .int := by
  unfold cut
  rw [List.length_map, ← List.map_drop, ← List.map_take]
theorem cut_mem {xs : List Int} {hi : Option Int} {y : Int} (m : y ∈ cut xs none hi) : y ∈ xs := List.mem_of_mem_drop (List.mem_of_mem_take m)
theorem cut_len {xs : List Int} {hi : Option Int} : (cut xs none hi).length ≤ xs.length := by
  unfold cut
  rw [List.length_take, List.length_drop]
  omega
theorem rngD_at {n i : Nat} {x : PD} (h : (rngD 0 n)[i]? = some x) : x = .int (i : Int) ∧ i < n := by
  unfold rngD at h
  rw [List.getElem?_map] at h
  obtain ⟨j, e1, e2⟩ := Option.map_eq_some_iff.mp h
  have hi : i < n := by
    rcases Nat.lt_or_ge i n with z | z
    · exact z
    · rw [List.getElem?_eq_none (by simpa using z)] at e1; cases e1
  rw [List.getElem?_range hi] at e1
  cases e1
  exact ⟨by rw [← e2]; simp, hi⟩
theorem big62_s {i : Int} (h0 : -1000000 ≤ i) (h1 : i ≤ 1000000) : big62 i = true := big62_of (by omega) (by omega)
def rngI (n : Nat) : List Int := (List.range n).map fun i : Nat => (i : Int)
theorem rngD_map {n : Nat} : rngD 0 n = (rngI n).map .int := by
  unfold rngD rngI
  rw [List.map_map]
  apply List.map_congr_left
  intro i _
  simp
theorem rngI_mem {n : Nat} {y : Int} (m : y ∈ rngI n) : 0 ≤ y ∧ y < n := by
  unfold rngI at m
  obtain ⟨i, m2, rfl⟩ := List.mem_map.mp m
  have := List.mem_range.mp m2
  omega
@[simp] theorem oSl_l {ds : List PD} {lo hi : Option Int} : oSl (.fz (.list ds)) lo hi = some (.fz (.list (cut ds lo hi))) := rfl
theorem thD_fine {q : Int × Int} (h : 1 ≤ q.1 ∧ q.1 ≤ 10 ^ 9 ∧ 1 ≤ q.2 ∧ q.2 ≤ 64) : Fine 1 49 (thD q) :=
  (FineA.cons (Fine.int (by omega)) (FineA.cons (Fine.int (by omega)) FineA.nil)).tuple
theorem up_uniq {n b p : Int} (hb : 0 < b) (h1 : n ≤ p) (h2 : p < n + b) (h3 : p % b = 0) : p = up n b := by
  obtain ⟨u1, u2⟩ := up_is (e := n) hb
  have hm : (up n b - p) % b = 0 := by rw [Int.sub_emod, up_mod, h3]; simp
  have hm2 : (p - up n b) % b = 0 := by rw [Int.sub_emod, up_mod, h3]; simp
  rcases Int.le_total p (up n b) with z | z
  · rw [Int.emod_eq_of_lt (by omega) (by omega)] at hm
    omega
  · rw [Int.emod_eq_of_lt (by omega) (by omega)] at hm2
    omega
theorem up_neg {n b : Int} (hb : 0 < b) : n + (-n) % b = up n b := by
  have h1 := Int.emod_nonneg (-n) (by omega : b ≠ 0)
  have h2 := Int.emod_lt_of_pos (-n) hb
  refine up_uniq hb (by omega) (by omega) ?_
  rw [Int.add_emod, Int.emod_emod, ← Int.add_emod, Int.add_right_neg, Int.zero_emod]
theorem up_self {n b : Int} (hb : 0 < b) (h : n % b = 0) : up n b = n := (up_uniq hb (Int.le_refl _) (by omega) h).symm
theorem pickP {p : PD → Prop} {xs : List PD} {i : Int} (h : ∀ x ∈ xs, p x) (h0 : 0 ≤ i) (h1 : i < xs.length) : ∃ z, p z ∧ atI xs i = some z := by
  have e : i.toNat < xs.length := by omega
  exact ⟨_, h _ (List.getElem_mem e), by rw [atI_nn h0, List.getElem?_eq_getElem e]⟩
end FM
namespace FM
open PySem PySem.Spec L2 PyProof.Rows
/-! ### loops item by item, comparisons, pairs and places -/
section
variable {ρ : List O} {nx bk ct : List O → Prop} {rt : O → List O → Prop} {a : MS} {f : QG} {r : List O → Option (List O)}
@[simp] theorem wS_forNil : wS (forGo f a [] ρ) nx rt bk ct = nx ρ := rfl
theorem wS_forCons {x : PD} {xs : List PD} : wS (forGo f a (x :: xs) ρ) nx rt bk ct = ∃ ρ1, f x ρ = some ρ1 ∧ wS (a ρ1) (fun ρ2 => wS (forGo f a xs ρ2) nx rt bk ct) rt nx (fun ρ2 => wS (forGo f a xs ρ2) nx rt bk ct) := by
  have e : forGo f a (x :: xs) ρ = match f x ρ with
    | none => .bad
    | some ρ1 => match a ρ1 with
      | .next ρ2 => forGo f a xs ρ2
      | .cont ρ2 => forGo f a xs ρ2
      | .brk ρ2 => .next ρ2
      | .ret o ρ2 => .ret o ρ2
      | .exc x ρ2 => .exc x ρ2
      | .bad => .bad := rfl
  rw [e]
  cases e1 : f x ρ with
  | none => simp [wS]
  | some ρ1 =>
    cases e2 : a ρ1 <;> simp [wS, e2]
@[simp] theorem qRng2_eq : qRng2 r ρ = match r ρ with
    | some [.fz (.int i), .fz (.int j)] => if big62 i && big62 j then some (rngD i (j - i).toNat) else none
    | _ => none := rfl
theorem oStr_i {i : Int} (h : i.natAbs < 2 ^ 1900) : oStr [.fz (.int i)] = some (.fz (.str (toString i))) := if_pos h
theorem oNe_self {d : PD} (h : SeqAt.shaped d = true) : oNe (.fz d) (.fz d) = some (.fz (.bool false)) := by
  have hc : d.canLay0 = true := by unfold SeqAt.shaped at h; simp at h; exact h.1
  unfold oNe
  cases e : strs2 (.fz d) (.fz d) with
  | some p =>
    obtain ⟨e1, e2⟩ := strs2_eq e
    have e3 := e1.symm.trans e2
    have e4 : p.1 = p.2 := by
      injection e3 with e3
      injection e3
    simp [e4]
  | none => simp [oNeD, h, SeqAt.eqv_refl d hc]
theorem oEq_self {d : PD} (h : SeqAt.shaped d = true) : oEq (.fz d) (.fz d) = some (.fz (.bool true)) := by
  have hc : d.canLay0 = true := by unfold SeqAt.shaped at h; simp at h; exact h.1
  unfold oEq
  cases e : strs2 (.fz d) (.fz d) with
  | some p =>
    obtain ⟨e1, e2⟩ := strs2_eq e
    have e3 := e1.symm.trans e2
    have e4 : p.1 = p.2 := by
      injection e3 with e3
      injection e3
    simp [e4]
  | none => simp [oEqD, h, SeqAt.eqv_refl d hc]
theorem shaped_nil : SeqAt.shaped (.list []) = true := by simp [SeqAt.shaped, PyData.canLay0, PyData.canLayAll0, PyData.depth, PyData.depthAll]
theorem oNe_nil {ds : List PD} (h : SeqAt.shaped (.list ds) = true) : oNe (.fz (.list ds)) (.fz (.list [])) = some (.fz (.bool (!ds.isEmpty))) := by
  unfold oNe
  rw [strs2_none (l := ds) (r := []) rfl]
  cases ds <;> simp [oNeD, h, shaped_nil, PyData.eqv, PyData.eqvAll]
theorem oEq_nil {ds : List PD} (h : SeqAt.shaped (.list ds) = true) : oEq (.fz (.list ds)) (.fz (.list [])) = some (.fz (.bool ds.isEmpty)) := by
  unfold oEq
  rw [strs2_none (l := ds) (r := []) rfl]
  cases ds <;> simp [oEqD, h, shaped_nil, PyData.eqv, PyData.eqvAll]
end
theorem boolsD_fun {α : Type} {g : α → Bool} (xs : List α) : boolsD (xs.map fun x => .bool (g x)) = some (xs.map g) := by
  have := boolsD_map (xs.map g)
  rwa [List.map_map] at this
theorem oAll_map {α : Type} {g : α → Bool} {xs : List α} : oAll [.fz (.list (xs.map fun x => .bool (g x)))] = some (.fz (.bool (xs.all g))) := by
  rw [oAll_l, boolsD_fun, Option.map_some, List.all_map]
  rfl
theorem oAny_map {α : Type} {g : α → Bool} {xs : List α} : oAny [.fz (.list (xs.map fun x => .bool (g x)))] = some (.fz (.bool (xs.any g))) := by
  rw [oAny_l, boolsD_fun, Option.map_some, List.any_map]
  rfl
theorem at_pl {pl : List Int} {t : Nat} (h : t < pl.length) : atI (pl.map PyData.int) (t : Int) = some (.int (pl.getD t 0)) := by
  rw [atI_nn (by omega), List.getElem?_map]
  simp [h]
def prD (q : Nat × Nat) : PD := .tuple [.int (q.1 : Int), .int (q.2 : Int)]
def okP (m : Nat) (ps : List (Nat × Nat)) : Prop := ∀ q ∈ ps, q.1 < q.2 ∧ q.2 < m
def lieO (p s p' s' : Int) : Bool := decide (p < p' + s') && decide (p' < p + s)
def overG (ts : List (Int × Int)) (pl : List Int) (q : Nat × Nat) : Bool := lieO (pl.getD q.1 0) (ts.getD q.1 (1, 1)).1 (pl.getD q.2 0) (ts.getD q.2 (1, 1)).1
def pOk (b : Int) : PD → Bool
  | .int i => decide (0 ≤ i) && decide (i % b = 0)
  | _ => false
def allOk : List PD → List (Int × Int) → Bool
  | x :: ds, t :: ts => pOk t.2 x && allOk ds ts
  | _, _ => true
def placesOk (ts : List (Int × Int)) : PD → Bool
  | .list ds => decide (ds.length = ts.length) && allOk ds ts
  | _ => false
theorem allOk_ints : ∀ {ds : List PD} {ts : List (Int × Int)}, ds.length = ts.length → allOk ds ts = true → ∃ pl : List Int, ds = pl.map .int ∧ pl.length = ts.length
  | [], [], _, _ => ⟨[], rfl, rfl⟩
  | [], _ :: _, h, _ => by cases h
  | _ :: _, [], h, _ => by cases h
  | x :: ds, t :: ts, hl, h => by
    simp [allOk] at h
    obtain ⟨pl, rfl, l⟩ := allOk_ints (by simpa using hl) h.2
    cases x with
    | int i => exact ⟨i :: pl, rfl, by simp [l]⟩
    | _ => simp [pOk] at h
theorem placesOk_ints {ts : List (Int × Int)} {d : PD} (h : placesOk ts d = true) : ∃ pl : List Int, d = .list (pl.map .int) ∧ pl.length = ts.length := by
  cases d with
  | list ds =>
    simp [placesOk] at h
    obtain ⟨pl, rfl, l⟩ := allOk_ints h.1 h.2
    exact ⟨pl, rfl, l⟩
  | _ => simp [placesOk] at h
theorem allOk_of : ∀ {pl : List Int} {ts : List (Int × Int)}, pl.length = ts.length → (∀ t, t < ts.length → 0 ≤ pl.getD t 0 ∧ pl.getD t 0 % (ts.getD t (1, 1)).2 = 0) → allOk (pl.map .int) ts = true
  | [], [], _, _ => rfl
  | [], _ :: _, h, _ => by cases h
  | _ :: _, [], h, _ => by cases h
  | p :: pl, t :: ts, hl, h => by
    have h0 := h 0 (by simp)
    have ih := allOk_of (pl := pl) (ts := ts) (by simpa using hl) fun j hj => by
      have := h (j + 1) (by simpa using hj)
      simpa using this
    simp at h0
    simp [allOk, pOk, ih, h0]
theorem placesOk_of {pl : List Int} {ts : List (Int × Int)} (hl : pl.length = ts.length) (h : ∀ t, t < ts.length → 0 ≤ pl.getD t 0 ∧ pl.getD t 0 % (ts.getD t (1, 1)).2 = 0) : placesOk ts (.list (pl.map .int)) = true := by
  simp [placesOk, hl, allOk_of hl h]
def prsD (o : Option (Nat × Nat)) : PD := match o with
  | some q => prD q
  | none => .none
theorem prs_fine {m : Nat} {ps : List (Nat × Nat)} (h : okP m ps) (hm : m ≤ 1000000) : Fine 2 (ps.length * 51 + 2) (.list (ps.map prD)) := by
  have := (FineA.all (ds := ps.map prD) (h := 1) (n := 49) (fun d mm => by
    obtain ⟨q, mq, rfl⟩ := List.mem_map.mp mm
    have := h q mq
    exact (FineA.cons (Fine.int (by omega)) (FineA.cons (Fine.int (by omega)) FineA.nil)).tuple)).list
  rwa [List.length_map] at this
theorem ths_fine {ts : List (Int × Int)} (ho : okT ts) : Fine 2 (ts.length * 51 + 3) (.tuple (ts.map thD)) := by
  have := (FineA.all (ds := ts.map thD) (h := 1) (n := 49) (fun d m => by
    obtain ⟨q, mq, rfl⟩ := List.mem_map.mp m
    exact thD_fine (ho q mq))).tuple
  rwa [List.length_map] at this
theorem ints_fine {xs : List Int} (h : ∀ x ∈ xs, x.natAbs < 2 ^ 64) : Fine 1 (xs.length * 23 + 2) (.list (xs.map .int)) := by
  have := (FineA.all (ds := xs.map .int) (h := 0) (n := 21) (fun d m => by
    obtain ⟨q, mq, rfl⟩ := List.mem_map.mp m
    exact Fine.int (h q mq))).list
  rwa [List.length_map] at this
theorem rngD_atL {lo : Int} {n i : Nat} {x : PD} (h : (rngD lo n)[i]? = some x) : x = .int (lo + (i : Int)) ∧ i < n := by
  unfold rngD at h
  rw [List.getElem?_map] at h
  obtain ⟨j, e1, e2⟩ := Option.map_eq_some_iff.mp h
  have hi : i < n := by
    rcases Nat.lt_or_ge i n with z | z
    · exact z
    · rw [List.getElem?_eq_none (by simpa using z)] at e1; cases e1
  rw [List.getElem?_range hi] at e1
  cases e1
  exact ⟨e2.symm, hi⟩
@[simp] theorem rngD_len {lo : Int} {n : Nat} : (rngD lo n).length = n := by simp [rngD]
end FM
namespace FM
open PySem PySem.Spec L2 PyProof.Rows
open PySem.W (dataLe EachIs AllAlike Sortable alike)
/-! ### sorted of data of one kind -/
def rSortedX (K : Frag) : List V → Hp → VK → Prop := fun vs H Q => ∃ (a : Addr) (zs : List (V × PD)), vs = [V.ref a] ∧ SqL K H a (zs.map Prod.fst) ∧ (∀ z ∈ zs, Dp K H z.1 z.2) ∧ AllAlike (zs.map Prod.snd) ∧ Sortable (zs.map Prod.snd) ∧ (∀ z ∈ zs, z.2.depth ≤ 40) ∧
  ∀ p, H p = none → Q (.ref p) (upd H p (.lst ((zs.mergeSort (dataLe false Prod.snd)).map Prod.fst)))
theorem each_vals : ∀ {zs : List (V × PD)} {us : List Value}, Vals (zs.map Prod.fst) us → EachIs (fun v (b : V × PD) => RelV b.1 v) us zs
  | [], _, r => by
    cases r
    exact .nil
  | z :: zs, _, r => by
    cases r with
    | cons h t => exact .cons h (each_vals t)
theorem vals_each : ∀ {zs : List (V × PD)} {us : List Value}, EachIs (fun v (b : V × PD) => RelV b.1 v) us zs → Vals (zs.map Prod.fst) us
  | [], _, r => by
    cases r
    exact .nil
  | z :: zs, _, r => by
    cases r with
    | cons h t => exact .cons h (vals_each t)
theorem each_in {R : Value → V × PD → Prop} : ∀ {zs : List (V × PD)} {us : List Value}, EachIs R us zs → EachIs (fun v b => R v b ∧ b ∈ zs) us zs
  | [], _, r => by
    cases r
    exact .nil
  | z :: zs, _, r => by
    cases r with
    | cons h t => exact .cons ⟨h, List.mem_cons_self⟩ ((each_in t).mono fun a b q => ⟨q.1, List.mem_cons_of_mem _ q.2⟩)
theorem cr_sortedX {X : Cx} (hu : X.A.units + 64 < cLine) : CallR X (.builtin "sorted") (rSortedX X.K) := by
  intro pins s σ H vs us Q I r h
  obtain ⟨a, zs, rfl, hs, hd, hal, hk, hdp, q⟩ := h
  obtain ⟨its, rv, hl, hz⟩ := I.list hs
  rw [Vals.ref1 r]
  have e := each_vals rv
  have er : EachIs (fun v (b : V × PD) => ∃ as, Reads s.heap v b.2 as) its zs := (each_in e).mono fun v b ⟨h1, h2⟩ => Dp.reads I b.2 b.1 v (hd b h2) h1
  have hL : zs.length ≤ sizeLine := by rw [List.length_map] at hz; exact hz
  refine PySem.W.sorted_data (enc := Prod.snd) hl.isList e er hal hk hL (fun b m => by have := hdp b m; omega) fun out ho hr => ?_
  have rv2 := vals_each hr
  obtain ⟨ep, he⟩ := PyProof.Rows.sortedAll_at s.heap its out.toArray
  have hlen : ((zs.mergeSort (dataLe false Prod.snd)).map Prod.fst).length ≤ sizeLine := by
    rw [List.length_map, List.length_mergeSort]
    exact hL
  exact ⟨.ref _, upd H (s.heap.objs.size + 1) (.lst ((zs.mergeSort (dataLe false Prod.snd)).map Prod.fst)), I.laid (t' := s.toks) (fun _ _ => PyProof.Rows.sortedAll_old) (Nat.le_succ _) ⟨hlen, out, ep, rv2, he⟩, rfl, q _ (I.hok.fresh (Nat.le_succ _))⟩
def rSortedU (K : Frag) : List V → Hp → VK → Prop := fun vs H Q => rSortedI K vs H Q ∨ rSortedX K vs H Q
theorem cr_sortedU {X : Cx} (hu : X.A.units + 64 < cLine) : CallR X (.builtin "sorted") (rSortedU X.K) := by
  intro pins s σ H vs us Q I r h
  rcases h with h | h
  · exact cr_sortedI pins s σ H vs us Q I r h
  · exact cr_sortedX hu pins s σ H vs us Q I r h
def tupC : PD → Bool
  | .tuple (_ :: _) => true
  | _ => false
def notNT : PD → Bool
  | .none => false
  | .tuple _ => false
  | _ => true
def sortC (ds : List PD) : Bool := ds.all (fun d => ds.all fun e => alike d e) && (ds.all tupC || ds.all notNT) && ds.all (fun d => decide (d.depth ≤ 40) && d.canLay0)
def sortD (ds : List PD) : List PD := ds.mergeSort (dataLe false id)
def oSortU : List O → Option O
  | [x] => match seqL x with
    | some ds => match intsD ds with
      | some ns => some (.lst ((sortI ns).map .int))
      | none => if sortC ds then some (.lst (sortD ds)) else none
    | none => none
  | _ => none
theorem reps_mem {K : Frag} {F : Hp} : ∀ {l : List (V × PD)}, (∀ z ∈ l, Rep K F z.1 z.2) → Reps K F (l.map Prod.fst) (l.map Prod.snd)
  | [], _ => .nil
  | z :: l, h => .cons (h z List.mem_cons_self) (reps_mem fun y m => h y (List.mem_cons_of_mem _ m))
theorem zip_reps {K : Frag} {F : Hp} : ∀ {vs : List V} {ds : List PD}, Reps K F vs ds → (∀ z ∈ vs.zip ds, Rep K F z.1 z.2) ∧ (vs.zip ds).map Prod.fst = vs ∧ (vs.zip ds).map Prod.snd = ds
  | _, _, .nil => ⟨fun z m => by simp at m, rfl, rfl⟩
  | v :: vs, d :: ds, .cons h r => by
    obtain ⟨h1, h2, h3⟩ := zip_reps r
    refine ⟨fun z m => ?_, by simp [h2], by simp [h3]⟩
    rcases List.mem_cons.mp (by simpa using m) with e | m
    · rw [e]; exact h
    · exact h1 z m
theorem cn_sortU {k : Kc} : CbN k (rSortedU k.K) oSortU := by
  intro F H S xs os o Q f off th ws e h
  unfold oSortU at e
  split at e
  · cases ws with
    | cons w ws =>
      cases ws
      split at e
      · rename_i ds es
        obtain ⟨a, vs, rfl, g1, g2⟩ := w.seqL f es
        split at e
        · rename_i ns en
          cases e
          have e3 := intsD_eq en
          subst e3
          rw [reps_ints g2] at g1
          refine .inl ⟨a, ns, rfl, g1, fun ns' p hp hs hn => ?_⟩
          rw [sorted_unique (hp.trans (sortI_perm ns).symm) hs (sortI_sorted ns)]
          exact own_list f (ints_reps (sortI ns)) h p hn
        · split at e
          · rename_i hc
            cases e
            obtain ⟨z1, z2, z3⟩ := zip_reps g2
            unfold sortC at hc
            simp only [Bool.and_eq_true] at hc
            obtain ⟨⟨c1, c2⟩, c3⟩ := hc
            have hm : ∀ z ∈ vs.zip ds, z.2 ∈ ds := fun z m => by rw [← z3]; exact List.mem_map.mpr ⟨z, m, rfl⟩
            have c3' : ∀ d ∈ ds, d.depth ≤ 40 ∧ d.canLay0 = true := fun d m => by
              have := List.all_eq_true.mp c3 d m
              simp at this
              exact this
            have srt : ((vs.zip ds).mergeSort (dataLe false Prod.snd)).map Prod.snd = sortD ds := by
              have e1 := PySem.W.sort_maps (r := dataLe false Prod.snd) (s := dataLe false id) (Prod.snd : V × PD → PD) (l := vs.zip ds) (fun _ _ _ _ => rfl)
              rw [e1, z3]
              rfl
            refine .inr ⟨a, vs.zip ds, rfl, by rw [z2]; exact g1, fun z m => ((z1 z m).le f).dp (c3' _ (hm z m)).2, ?_, ?_, fun z m => (c3' _ (hm z m)).1, fun p hn => ?_⟩
            · rw [z3]
              intro d m d' m'
              exact List.all_eq_true.mp (List.all_eq_true.mp c1 d m) d' m'
            · rw [z3]
              rcases Bool.or_eq_true_iff.mp c2 with c2 | c2
              · refine .inl fun d m => ?_
                have := List.all_eq_true.mp c2 d m
                unfold tupC at this
                split at this
                · exact ⟨_, _, rfl⟩
                · cases this
              · refine .inr fun d m => ?_
                have := List.all_eq_true.mp c2 d m
                cases d with
                | none => cases this
                | tuple ds => cases this
                | _ => exact ⟨by simp, by simp⟩
            · have rr := reps_mem (K := k.K) (F := F) (l := (vs.zip ds).mergeSort (dataLe false Prod.snd)) fun z m => z1 z (List.mem_mergeSort.mp m)
              rw [srt] at rr
              exact own_list f rr h p hn
          · cases e
      · cases e
  · cases e
end FM
namespace FM
open PySem PySem.Spec L2 PyProof.Rows
/-! ### range(i, j, c) -/
def rngC (lo c : Int) (n : Nat) : List PD := (List.range n).map fun i => PyData.int (lo + (i : Nat) * c)
theorem walkD_rangeC {k : Kc} {P : Hp → Hp → Prop} {lo c : Int} {n : Nat} : WalkD k P (Itc lo c n) (rngC lo c n) := by
  have hl : (rngC lo c n).length = n := by simp [rngC]
  refine ⟨fun i F H hi _ _ => ?_, fun F H _ _ => ?_, fun i F H x H' hi p f y => ?_⟩
  · show i < n
    omega
  · show n ≤ (rngC lo c n).length
    omega
  · obtain ⟨rfl, rfl⟩ := y
    refine ⟨F, Xt.refl f, ?_⟩
    rw [show (rngC lo c n)[i] = PyData.int (lo + (i : Nat) * c) by simp [rngC]]
    exact .int _
def rgC (i j c : Int) : Bool := decide (c ≠ 0) && decide (c.natAbs < 1073741824) && Builtin.Range.small i j c
def qRng3 (r : List O → Option (List O)) : QI := fun ρ => match r ρ with
  | some [.fz (.int i), .fz (.int j), .fz (.int c)] => if rgC i j c then some (rngC i c (Builtin.Range.rangeSize i j c).toNat) else none
  | _ => none
theorem tif_rng3 {k : Kc} {ta : TA} {qs : List O → Option (List O)} (ha : TAv k ta qs) : TIf k (iRng3 ta) (qRng3 qs) := by
  intro F H σ ρ S ds R q e g
  unfold qRng3 at e
  split at e
  · rename_i i j c e1
    split at e
    · rename_i hz
      cases e
      unfold rgC at hz
      simp only [Bool.and_eq_true, decide_eq_true_eq] at hz
      refine ha F H σ ρ S _ _ q e1 fun vs F1 H1 x1 w1 => ?_
      cases w1 with
      | cons w ws =>
        cases ws with
        | cons w2 ws =>
          cases ws with
          | cons w3 ws =>
            cases ws
            have ew := w.int
            have ew2 := w2.int
            have ew3 := w3.int
            subst ew ew2 ew3
            exact ⟨i, j, c, _, rfl, ⟨hz.1.1, hz.1.2, hz.2, PyProof.Rows.rangeSize_toNat i j c⟩, g _ F1 H1 x1 walkD_rangeC⟩
    · cases e
  · cases e
@[simp] theorem qRng3_eq {r : List O → Option (List O)} {ρ : List O} : qRng3 r ρ = match r ρ with
    | some [.fz (.int i), .fz (.int j), .fz (.int c)] => if rgC i j c then some (rngC i c (Builtin.Range.rangeSize i j c).toNat) else none
    | _ => none := rfl
end FM
namespace FM
open PySem PySem.Spec L2 PyProof.Rows
/-! ### d[k] = v, and [..] * n as a list of one's own -/
def putD {κ : Type} [DecidableEq κ] {α : Type} (kvs : List (κ × α)) (k : κ) (v : α) : List (κ × α) :=
  if (kvs.any fun kv => decide (kv.1 = k)) then kvs.map (fun kv => if kv.1 = k then (kv.1, v) else kv) else kvs ++ [(k, v)]
theorem RepK.any {K : Frag} {F : Hp} (x : Key) : ∀ {vs : List (Key × V)} {ds : List (Key × PD)}, RepK K F vs ds → (vs.any fun kv => decide (kv.1 = x)) = (ds.any fun kv => decide (kv.1 = x))
  | _, _, .nil => rfl
  | _, _, .cons h r => by simp only [List.any_cons, RepK.any x r]
theorem RepK.len' {K : Frag} {F : Hp} : ∀ {vs : List (Key × V)} {ds : List (Key × PD)}, RepK K F vs ds → vs.length = ds.length
  | _, _, .nil => rfl
  | _, _, .cons h r => congrArg (· + 1) (RepK.len' r)
theorem RepK.maps {K : Frag} {F : Hp} {x : Key} {v : V} {d : PD} (h0 : Rep K F v d) : ∀ {vs : List (Key × V)} {ds : List (Key × PD)}, RepK K F vs ds → RepK K F (vs.map fun kv => if kv.1 = x then (kv.1, v) else kv) (ds.map fun kv => if kv.1 = x then (kv.1, d) else kv)
  | _, _, .nil => .nil
  | (k, w) :: _, (_, e) :: _, .cons h r => by
    have ih := RepK.maps (x := x) h0 r
    simp only [List.map_cons]
    by_cases c : k = x
    · rw [if_pos c, if_pos c]; exact .cons h0 ih
    · rw [if_neg c, if_neg c]; exact .cons h ih
theorem RepK.snoc {K : Frag} {F : Hp} {x : Key} {v : V} {d : PD} (h0 : Rep K F v d) : ∀ {vs : List (Key × V)} {ds : List (Key × PD)}, RepK K F vs ds → RepK K F (vs ++ [(x, v)]) (ds ++ [(x, d)])
  | _, _, .nil => .cons h0 .nil
  | _, _, .cons h r => .cons h (RepK.snoc h0 r)
theorem RepK.put {K : Frag} {F : Hp} {x : Key} {v : V} {d : PD} {vs : List (Key × V)} {ds : List (Key × PD)} (r : RepK K F vs ds) (h0 : Rep K F v d) : RepK K F (putK vs x v) (putD ds x d) := by
  unfold putK putD
  rw [r.any x]
  split
  · exact RepK.maps h0 r
  · exact RepK.snoc h0 r
section
variable {k : Kc} {E : XK}
theorem StW.dicAt {P : List (Nat × V)} {e : Ent} {σ : L2.St} {ρ : List O} {vs : List V} {os : List O} {F H : Hp} {S1 S2 : List Addr} {i : Nat} {ds : List (Key × PD)} (s : StW k P e σ ρ vs os F H S1 S2) (e0 : qVar i ρ = some (.dic ds)) :
    ∃ a ws, σ[i]? = some (some (.ref a)) ∧ H a = some (.dK ws) ∧ RepK k.K F ws ds ∧ ∀ ws' ds', RepK k.K F ws' ds' → ∃ U, StW k P e σ (ρ.set i (.dic ds')) vs os F (upd H a (.dK ws')) U S2 := by
  obtain ⟨env, tmp, fr, pin⟩ := s
  obtain ⟨g1, g2⟩ := qVar_some e0
  obtain ⟨v, T, R, a1, a2, a3, a4⟩ := env.take g1 g2
  cases a2 with
  | @dic a ws _ h r =>
    have frz : Fr e F H (a :: (R ++ S2)) := Sbp.fr fr (.of_count fun b => by
      have c2 := a4.count_eq b
      simp only [List.count_append, List.count_cons, List.count_nil] at c2 ⊢
      omega)
    have ha : H a = some (.dK ws) := by
      rcases h with h | ⟨ob, h⟩
      · exact h
      · exact (frz.nofz a List.mem_cons_self ob _ h).elim
    refine ⟨a, ws, a1, ha, r, fun ws' ds' r' => ?_⟩
    have nd := List.nodup_cons.mp frz.nd
    have keep : ∀ U : List Addr, (∀ b ∈ U, b ∈ R ++ S2) → At U H (upd H a (.dK ws')) := fun U m b mb u z => by
      rw [upd_ne (fun q => nd.1 (by rw [← q]; exact m b mb))]
      exact z
    have fw := frz.write (a := a) (o := .dK ws') List.mem_cons_self (fun _ _ z => by cases z)
    have env3 := a3.mono (Same.refl F) (keep R fun b m => List.mem_append_left _ m)
    have tmp3 := tmp.mono (Same.refl F) (keep S2 fun b m => List.mem_append_right _ m)
    obtain ⟨U, mU, q⟩ := env3.put (i := i) a1 (Own.dic (k := k) (F := F) (.inl upd_same) r')
    rw [List.set_set] at q
    exact ⟨U, q, tmp3, Sbp.fr fw (.of_count fun b => by
      have := mU.count b
      simp only [List.count_append, List.count_cons, List.count_nil] at this ⊢
      omega), pin⟩
def rSetU : TSet := fun o i v H Q => rSetL o i v H Q ∨ rSetD o i v H Q
theorem set_U {X : Cx} (hu : X.A.units + 1 < cLine) : PSet X rSetU := by
  intro pins s σ H o i v ov iv u Q I ro ri rv h
  rcases h with h | h
  · exact set_list pins s σ H o i v ov iv u Q I ro ri rv h
  · exact set_dict hu pins s σ H o i v ov iv u Q I ro ri rv h
def sSetU (s : Nat) (qi : QE) (m : M O) : MS := fun ρ => match m ρ with
  | .ok (.fz d) ρ1 => match qVar s ρ1 with
    | some (.lst ds) => match qi ρ1 with
      | some (.fz i) => match fSetI ds i d with
        | some ds' => .next (ρ1.set s (.lst ds'))
        | none => .bad
      | _ => .bad
    | some (.dic kvs) => match qi ρ1 with
      | some i => match keyO i with
        | some x => if kvs.length < sizeLine then .next (ρ1.set s (.dic (putD kvs x d))) else .bad
        | none => .bad
      | none => .bad
    | _ => .bad
  | .ok _ _ => .bad
  | .exc x ρ1 => .exc x ρ1
  | .bad => .bad
theorem tsm_setU {s : Nat} {te ti : TE} {m : M O} {qi : QE} (h : TEm k E te m) (hi : TEv k ti qi) : TSm k E [] (tAsg te (gSub (tVar s) ti rSetU)) (sSetU s qi m) := by
  intro P e σ ρ vs os H D o st g
  refine h P e σ ρ vs os H _ st ?_
  unfold sSetU at g
  cases e1 : m ρ with
  | exc x ρ1 => rw [e1] at g; exact g.exc
  | bad => rw [e1] at g; exact g
  | ok z ρ1 =>
    rw [e1] at g
    intro v H1 s1
    cases z with
    | fz d =>
      simp only at g
      obtain ⟨F, S1, S2, s1⟩ := s1
      split at g
      · rename_i ds e2
        split at g
        · rename_i i e3
          obtain ⟨a, ws, a1, a2, a3, a4⟩ := s1.lstAt e2
          refine ⟨.ref a, a1, hi F H1 σ ρ1 S1 _ _ s1.qs e3 fun w F2 H2 x2 w2 => ?_⟩
          have s2 := s1.xt x2
          obtain ⟨a', ws2, b1, b2, b3, b4⟩ := s2.lstAt e2
          rw [a1] at b1
          cases b1
          have rd := s2.top.1
          cases e4 : fSetI ds i d with
          | none => rw [e4] at g; exact g.elim
          | some ds' =>
            rw [e4] at g
            unfold fSetI at e4
            split at e4
            · rename_i j
              obtain ⟨n, e5, e6⟩ := Option.map_eq_some_iff.mp e4
              subst e6
              have ew := w2.int
              subst ew
              refine .inl ⟨a, ws2, j, n, rfl, rfl, b2, by rw [b3.length]; exact e5, ?_⟩
              obtain ⟨U, s5⟩ := b4 _ _ (b3.set rd n)
              obtain ⟨_, s6⟩ := s5.top
              exact g σ _ ⟨F2, U, S2, s6⟩
            · cases e4
        · exact g.elim
      · rename_i kvs e2
        split at g
        · rename_i i e3
          split at g
          · rename_i x e4
            split at g
            · rename_i hz
              obtain ⟨a, ws, a1, a2, a3, a4⟩ := s1.dicAt e2
              refine ⟨.ref a, a1, hi F H1 σ ρ1 S1 _ _ s1.qs e3 fun w F2 H2 x2 w2 => ?_⟩
              have s2 := s1.xt x2
              obtain ⟨a', ws2, b1, b2, b3, b4⟩ := s2.dicAt e2
              rw [a1] at b1
              cases b1
              have rd := s2.top.1
              have ew := w2.keyO e4
              subst ew
              refine .inr ⟨a, _, rfl, DPut.k b2 (by rw [b3.len']; exact hz), ?_⟩
              obtain ⟨U, s5⟩ := b4 _ _ (b3.put rd)
              obtain ⟨_, s6⟩ := s5.top
              exact g σ _ ⟨F2, U, S2, s6⟩
            · exact g.elim
          · exact g.elim
        · exact g.elim
      · exact g.elim
    | _ => exact g.elim
theorem Fresh.back {F F1 F2 H H1 H2 : Hp} {T : List Addr} (f : Fresh F2 H1 H2 T) (x : Xt F H F1 H1) : Fresh F2 H H2 T := ⟨f.nd, fun a m => none_back x.ex (f.new a m), f.off, f.nofz⟩
def OpN (k : Kc) (r : R2) (f : O → O → Option O) : Prop := ∀ (F H : Hp) (S : List Addr) (x y : V) (ox oy o : O) (Q : VK), FLe F H → (∀ a ∈ S, F a = none) → (∀ a ∈ S, Th H a) → Vw k F H S x ox → Vw k F H S y oy → f ox oy = some o → (∀ v F' H' T, Xt F H F' H' → Own k F' H' v o T → Fresh F' H H' T → Q v H') → r x y H Q
theorem ten_op {ta tb : TE} {qa qb : QE} {r : R2} {f : O → O → Option O} (ha : TEv k ta qa) (hb : TEv k tb qb) (hr : OpN k r f) : TEn k (tOp r ta tb) (qOp f qa qb) := by
  intro F H σ ρ S o Q q e h
  unfold qOp at e
  split at e
  · cases e
  · rename_i x e1
    split at e
    · cases e
    · rename_i y e2
      refine ha F H σ ρ S x _ q e1 fun v F1 H1 x1 w1 => hb F1 H1 σ ρ S y _ (q.xt x1) e2 fun w F2 H2 x2 w2 => ?_
      have q2 := (q.xt x1).xt x2
      exact hr F2 H2 S v w x y o Q x2.fle q2.off q2.env.there (w1.xt x2) w2 e fun z F3 H3 T x3 w3 f3 => h z F3 H3 T ((x1.trans x2).trans x3) w3 (f3.back (x1.trans x2))
def repOk (n : Nat) (b : Int) : Prop := -(2 ^ 63) ≤ b ∧ b < 2 ^ 63 ∧ n * b.toNat ≤ sizeLine
open Classical in
noncomputable def oMulN (x y : O) : Option O := match y with
  | .fz (.int b) => match seqL x with
    | some a => if repOk a.length b then some (.lst (List.replicate b.toNat a).flatten) else none
    | none => none
  | _ => none
theorem on_mul : OpN k (rMulU k.K) oMulN := by
  intro F H S x y ox oy o Q f off th wx wy e h
  unfold oMulN at e
  split at e
  · split at e
    · rename_i a ea
      split at e
      · rename_i hz
        cases e
        obtain ⟨p, vs, rfl, hs, rs⟩ := wx.seqL f ea
        exact .inr ⟨p, _, vs, rfl, wy.int, hs, hz.1, hz.2.1, by rw [rs.length]; exact hz.2.2, own_list f (rs.rep _) h⟩
      · cases e
    · cases e
  · cases e
end
section
variable {ρ : List O} {nx bk ct : List O → Prop} {rt : O → List O → Prop} {m : M O} {qi : QE}
@[simp] theorem wS_setU {s : Nat} : wS (sSetU s qi m ρ) nx rt bk ct = wM (m ρ) fun o ρ1 => ∃ d, o = .fz d ∧ match qVar s ρ1 with
    | some (.lst ds) => ∃ i, qi ρ1 = some (.fz i) ∧ ∃ ds', fSetI ds i d = some ds' ∧ nx (ρ1.set s (.lst ds'))
    | some (.dic kvs) => ∃ i, qi ρ1 = some i ∧ ∃ x, keyO i = some x ∧ kvs.length < sizeLine ∧ nx (ρ1.set s (.dic (putD kvs x d)))
    | _ => False := by
  unfold sSetU
  cases e : m ρ with
  | ok o ρ1 =>
    cases o with
    | fz d =>
      simp only [wM_ok]
      cases e2 : qVar s ρ1 with
      | none => simp [wS, e2]
      | some z =>
        cases z with
        | lst ds =>
          cases e3 : qi ρ1 with
          | none => simp [wS, e2, e3]
          | some y =>
            cases y with
            | fz i => cases e4 : fSetI ds i d <;> simp [wS, e2, e3, e4]
            | _ => simp [wS, e2, e3]
        | dic kvs =>
          cases e3 : qi ρ1 with
          | none => simp [wS, e2, e3]
          | some y =>
            cases e4 : keyO y with
            | none => simp [wS, e2, e3, e4]
            | some x =>
              by_cases hz : kvs.length < sizeLine
              · simp [e2, e3, e4, hz]
                rfl
              · simp [wS, e2, e3, e4, hz]
        | _ => simp [wS, e2]
    | _ => simp [wS]
  | _ => rfl
@[simp] theorem keyO_i {i : Int} : keyO (.fz (.int i)) = some (.inl i) := rfl
@[simp] theorem keyO_s {x : Str} : keyO (.fz (.str x)) = some (.inr x) := rfl
theorem oMulN_i {ds : List PD} {b : Int} (h1 : -(2 ^ 63) ≤ b) (h2 : b < 2 ^ 63) (h3 : ds.length * b.toNat ≤ sizeLine) : oMulN (.fz (.list ds)) (.fz (.int b)) = some (.lst (List.replicate b.toNat ds).flatten) := by
  have c : repOk ds.length b := ⟨h1, h2, h3⟩
  unfold oMulN
  simp only [seqL]
  rw [if_pos c]
end
end FM
namespace FM
open PySem PySem.Spec L2 PyProof.Rows
open PySem.W (dataLe alike dataLt)
/-! ### orders, pairs, dicts of numbers, lists built item by item -/
theorem cut_take {α : Type} {xs : List α} {k : Nat} : cut xs none (some (k : Int)) = xs.take k := by
  unfold cut
  rw [HT.sIx_none, HT.sIx_nat]
  simp only [List.drop_zero, Nat.sub_zero]
  by_cases h : k ≤ xs.length
  · rw [Nat.min_eq_left h]
  · rw [Nat.min_eq_right (by omega), List.take_length, List.take_of_length_le (by omega)]
theorem enumGo_at {ds : List PD} {n i : Nat} {x : PD} (h : (enumGo n ds)[i]? = some x) : ∃ d, ds[i]? = some d ∧ x = pairD (.int ((n + i : Nat) : Int)) d := by
  obtain ⟨hi, rfl⟩ := List.getElem?_eq_some_iff.mp h
  obtain ⟨h1, h2⟩ := enum_at hi
  exact ⟨ds[i], List.getElem?_eq_getElem h1, h2⟩
@[simp] theorem qEnum_eq {r : List O → Option (List O)} {ρ : List O} : qEnum r ρ = match r ρ with
    | some [.fz (.list ds)] => some (enumGo 0 ds)
    | _ => none := rfl
theorem lk_cons {α : Type} {k x : Key} {v : α} {kvs : List (Key × α)} : lk ((k, v) :: kvs) x = if k = x then some v else lk kvs x := by
  unfold lk
  rw [List.find?_cons]
  by_cases h : k = x <;> simp [h]
theorem putD_new {α : Type} {kvs : List (Key × α)} {k : Key} {v : α} (h : ∀ p ∈ kvs, p.1 ≠ k) : putD kvs k v = kvs ++ [(k, v)] := by
  unfold putD
  rw [if_neg]
  intro c
  obtain ⟨p, m, e⟩ := List.any_eq_true.mp c
  exact h p m (by simpa using e)
theorem oIx_dict {kvs : List (Key × PD)} {i : Int} (hn : kvs ≠ []) : oIx (.fz (.dict (kvs.map kp))) (.fz (.int i)) = (lk kvs (.inl i)).map .fz := by
  have e : dicK (.fz (.dict (kvs.map kp))) = some kvs := by
    cases kvs with
    | nil => exact (hn rfl).elim
    | cons p r => exact unkp_kp (p :: r)
  have e2 : oLook (.fz (.dict (kvs.map kp))) (.fz (.int i)) = some (lk kvs (.inl i)) := by
    unfold oLook
    rw [e]
    rfl
  show (match oLook (.fz (.dict (kvs.map kp))) (.fz (.int i)) with | some (some d) => some (O.fz d) | _ => none) = _
  rw [e2]
  cases lk kvs (.inl i) <;> rfl
theorem prD_shaped {q : Nat × Nat} : SeqAt.shaped (prD q) = true := by simp [prD, SeqAt.shaped, PyData.canLay0, PyData.canLayAll0, PyData.depth, PyData.depthAll]
theorem eqv_prD {q r : Nat × Nat} : PyData.eqv (prD q) (prD r) = decide (q = r) := by
  obtain ⟨a, b⟩ := q
  obtain ⟨c, d⟩ := r
  simp only [prD, PyData.eqv, PyData.eqvAll, beq_dec]
  rw [Bool.eq_iff_iff]
  simp
  omega
theorem oIn_prs {m : Nat} {q : Nat × Nat} {ps : List (Nat × Nat)} (h : okP m ps) (hm : m ≤ 1000000) : oIn (.fz (prD q)) (.fz (.list (ps.map prD))) = some (.fz (.bool (decide (q ∈ ps)))) := by
  have e1 : SeqAt.shaped (PyData.list (ps.map prD)) = true := (prs_fine h hm).shaped (by decide)
  have e2 := prD_shaped (q := q)
  have e3 : ((ps.map prD).any fun z => PyData.eqv z (prD q)) = decide (q ∈ ps) := by
    rw [List.any_map, Bool.eq_iff_iff, List.any_eq_true]
    constructor
    · rintro ⟨r, mr, e⟩
      simp [eqv_prD] at e
      rw [← e]
      simpa using mr
    · intro mr
      exact ⟨q, by simpa using mr, by simp [eqv_prD]⟩
  have e4 : bIn (.fz (prD q)) (.fz (.list (ps.map prD))) = some (decide (q ∈ ps)) := by
    rw [← e3]
    show (if (SeqAt.shaped (prD q) && SeqAt.shaped (PyData.list (ps.map prD))) = true then _ else _) = _
    rw [e1, e2]
    rfl
  unfold oIn
  rw [e4]
  rfl
theorem oSum_map {α : Type} {g : α → Int} {xs : List α} : oSum [.fz (.list (xs.map fun x => .int (g x)))] = some (.fz (.int (xs.map g).sum)) := by
  have e : intsD (xs.map fun x => PyData.int (g x)) = some (xs.map g) := by
    have := intsD_map (xs.map g)
    rwa [List.map_map] at this
  rw [oSum_l, e]
theorem sum_perm {α : Type} {g : α → Int} {xs ys : List α} (p : xs.Perm ys) : (xs.map g).sum = (ys.map g).sum := by
  induction p with
  | nil => rfl
  | cons x _ ih => simp [ih]
  | swap x y l => simp; omega
  | trans _ _ h1 h2 => rw [h1, h2]
/-- whether two things are in a pair -/
def inP (ps : List (Nat × Nat)) (t u : Nat) : Bool := decide ((min t u, max t u) ∈ ps)
def matesK (ps : List (Nat × Nat)) : List Nat → List Nat → List (Key × PD)
  | _, [] => []
  | pre, t :: r => (.inl (t : Int), .list ((pre.filter (inP ps t)).map natD)) :: matesK ps (pre ++ [t]) r
theorem matesK_snoc {ps : List (Nat × Nat)} {t : Nat} : ∀ {pre l : List Nat}, matesK ps pre (l ++ [t]) = matesK ps pre l ++ [(.inl (t : Int), .list (((pre ++ l).filter (inP ps t)).map natD))]
  | pre, [] => by simp [matesK]
  | pre, u :: l => by
    show _ :: matesK ps (pre ++ [u]) (l ++ [t]) = _
    rw [matesK_snoc]
    simp [matesK]
theorem matesK_keys {ps : List (Nat × Nat)} : ∀ {pre l : List Nat} {p : Key × PD}, p ∈ matesK ps pre l → ∃ t ∈ l, p.1 = .inl (t : Int)
  | pre, t :: r, p, m => by
    rcases List.mem_cons.mp (show p ∈ _ :: _ from m) with rfl | m
    · exact ⟨t, List.mem_cons_self, rfl⟩
    · obtain ⟨u, mu, e⟩ := matesK_keys m
      exact ⟨u, List.mem_cons_of_mem _ mu, e⟩
theorem matesK_lk {ps : List (Nat × Nat)} {t : Nat} : ∀ {pre l post : List Nat}, t ∉ l → lk (matesK ps pre (l ++ t :: post)) (.inl (t : Int)) = some (.list (((pre ++ l).filter (inP ps t)).map natD))
  | pre, [], post, _ => by
    show lk (((Sum.inl (t : Int) : Key), _) :: _) _ = _
    rw [lk_cons, if_pos rfl, List.append_nil]
  | pre, u :: l, post, h => by
    have hu : u ≠ t := fun e => h (by rw [e]; exact List.mem_cons_self)
    have e : ¬ ((Sum.inl (u : Int) : Key) = Sum.inl (t : Int)) := fun e => hu (by
      have := Sum.inl.inj e
      omega)
    show lk (((Sum.inl (u : Int) : Key), _) :: matesK ps (pre ++ [u]) (l ++ t :: post)) _ = _
    rw [lk_cons, if_neg e, matesK_lk (fun m => h (List.mem_cons_of_mem _ m))]
    simp
theorem nodup_at {od : List Nat} {i t : Nat} (hn : od.Nodup) (e : od[i]? = some t) : t ∉ od.take i ∧ od = od.take i ++ t :: od.drop (i + 1) := by
  obtain ⟨hi, rfl⟩ := List.getElem?_eq_some_iff.mp e
  have e2 : od = od.take i ++ od[i] :: od.drop (i + 1) := by rw [← List.drop_eq_getElem_cons hi, List.take_append_drop]
  refine ⟨fun m => ?_, e2⟩
  rw [e2] at hn
  have h3 := (List.nodup_append.mp hn).2.2
  exact h3 _ m _ List.mem_cons_self rfl
/-- a list whose items are set one by one, by what is ahead -/
def buildG (f : List Int → List Nat → Nat → Int) : List Nat → List Nat → List Int → List Int
  | _, [], l => l
  | pre, t :: r, l => buildG f (pre ++ [t]) r (l.set t (f l pre t))
theorem buildG_len {f : List Int → List Nat → Nat → Int} : ∀ {r pre : List Nat} {l : List Int}, (buildG f pre r l).length = l.length
  | [], _, _ => rfl
  | t :: r, pre, l => by
    show (buildG f (pre ++ [t]) r (l.set t (f l pre t))).length = _
    rw [buildG_len, List.length_set]
theorem getD_set {l : List Int} {t u : Nat} {v : Int} (h : t < l.length) : (l.set t v).getD u 0 = if t = u then v else l.getD u 0 := by
  rw [List.getD_eq_getElem?_getD, List.getD_eq_getElem?_getD, List.getElem?_set]
  by_cases e : t = u
  · subst e
    simp [h]
  · simp [e]
theorem buildG_le {f g : List Int → List Nat → Nat → Int} {n : Nat} (hfg : ∀ l l' pre t, t < n → (∀ u ∈ pre, u < n) → f l pre t ≤ g l' pre t) : ∀ {r pre : List Nat} {l l' : List Int}, l.length = n → l'.length = n → (∀ t ∈ r, t < n) → (∀ u ∈ pre, u < n) → (∀ u, l.getD u 0 ≤ l'.getD u 0) → ∀ u, (buildG f pre r l).getD u 0 ≤ (buildG g pre r l').getD u 0
  | [], _, _, _, _, _, _, _, h => h
  | t :: r, pre, l, l', h1, h2, hr, hp, h => by
    have ht := hr t List.mem_cons_self
    refine buildG_le hfg (r := r) (by rw [List.length_set]; exact h1) (by rw [List.length_set]; exact h2) (fun u m => hr u (List.mem_cons_of_mem _ m)) (fun u m => ?_) (fun u => ?_)
    · rcases List.mem_append.mp m with m | m
      · exact hp u m
      · rw [List.mem_singleton.mp m]; exact ht
    · rw [getD_set (by omega), getD_set (by omega)]
      by_cases e : t = u
      · rw [if_pos e, if_pos e]
        exact hfg l l' pre t ht hp
      · rw [if_neg e, if_neg e]
        exact h u
/-! the least place -/
def encP (x : Int × (Int × Int)) : PD := .tuple [.int x.1, thD x.2]
def sortP (xs : List (Int × (Int × Int))) : List (Int × (Int × Int)) := xs.mergeSort (dataLe false encP)
theorem sortP_perm (xs : List (Int × (Int × Int))) : (sortP xs).Perm xs := List.mergeSort_perm _ _
theorem sortD_encP (xs : List (Int × (Int × Int))) : sortD (xs.map encP) = (sortP xs).map encP := (PySem.W.sort_maps (r := dataLe false encP) (s := dataLe false id) encP fun _ _ _ _ => rfl).symm
theorem sortC_encP (xs : List (Int × (Int × Int))) : sortC (xs.map encP) = true := by
  unfold sortC
  simp only [Bool.and_eq_true, Bool.or_eq_true, List.all_eq_true, List.mem_map, forall_exists_index, and_imp, forall_apply_eq_imp_iff₂, decide_eq_true_eq]
  refine ⟨⟨fun x _ y _ => ?_, .inl fun x _ => rfl⟩, fun x _ => ⟨?_, ?_⟩⟩
  · simp [encP, thD, alike, PySem.W.alikeAll]
  · simp [encP, thD, PyData.depth, PyData.depthAll]
  · simp [encP, thD, PyData.canLay0, PyData.canLayAll0]
theorem intsD_encP {x : Int × (Int × Int)} {xs : List (Int × (Int × Int))} : intsD ((x :: xs).map encP) = none := rfl
theorem oSortU_encP (xs : List (Int × (Int × Int))) : oSortU [.fz (.list (xs.map encP))] = some (.lst ((sortP xs).map encP)) := by
  cases xs with
  | nil => simp [oSortU, seqL, sortI, sortP]
  | cons x xs =>
    show (match intsD ((x :: xs).map encP) with | some ns => some (O.lst ((sortI ns).map .int)) | none => if sortC ((x :: xs).map encP) then some (.lst (sortD ((x :: xs).map encP))) else none) = _
    rw [intsD_encP]
    simp only [sortC_encP, sortD_encP, if_true]
def leastGo (s b : Int) : Int → List (Int × (Int × Int)) → Int
  | f, [] => f
  | f, x :: r => leastGo s b (if lieO f s x.1 x.2.1 then up (x.1 + x.2.1) b else f) r
def leastG (th : Int × Int) (xs : List (Int × (Int × Int))) : Int := leastGo th.1 th.2 0 (sortP xs)
theorem up_mono {n m b : Int} (hb : 0 < b) (h : n ≤ m) : up n b ≤ up m b := by
  unfold up
  exact Int.mul_le_mul_of_nonneg_right (Int.ediv_le_ediv hb (by omega)) (by omega)
theorem up_add {n f b : Int} (hb : 0 < b) (h : f % b = 0) : up (f + n) b = f + up n b := by
  obtain ⟨u1, u2⟩ := up_is (e := n) hb
  exact (up_uniq hb (by omega) (by omega) (by rw [Int.add_emod, h, up_mod]; rfl)).symm
theorem leastGo_le {s b : Int} (hs : 1 ≤ s) (hb : 1 ≤ b) : ∀ {ys : List (Int × (Int × Int))} {f : Int}, (∀ y ∈ ys, 1 ≤ y.2.1) → f % b = 0 → leastGo s b f ys ≤ f + (ys.map fun y => up (y.2.1 + s - 1) b).sum
  | [], f, _, _ => by simp [leastGo]
  | y :: ys, f, h, hf => by
    have hy := h y List.mem_cons_self
    have ht : ∀ z ∈ ys, 1 ≤ z.2.1 := fun z m => h z (List.mem_cons_of_mem _ m)
    obtain ⟨u1, u2⟩ := up_is (e := y.2.1 + s - 1) (b := b) (by omega)
    rw [List.map_cons, List.sum_cons]
    show leastGo s b (if lieO f s y.1 y.2.1 then up (y.1 + y.2.1) b else f) ys ≤ _
    by_cases c : lieO f s y.1 y.2.1 = true
    · rw [if_pos c]
      have ih := leastGo_le hs hb (f := up (y.1 + y.2.1) b) ht up_mod
      simp only [lieO, Bool.and_eq_true, decide_eq_true_eq] at c
      have h1 := up_mono (b := b) (n := y.1 + y.2.1) (m := f + (y.2.1 + s - 1)) (by omega) (by omega)
      rw [up_add (by omega) hf] at h1
      omega
    · rw [if_neg c]
      have ih := leastGo_le hs hb (f := f) ht hf
      omega
theorem leastG_le {th : Int × Int} {xs : List (Int × (Int × Int))} (hs : 1 ≤ th.1) (hb : 1 ≤ th.2) (h : ∀ y ∈ xs, 1 ≤ y.2.1) : leastG th xs ≤ (xs.map fun y => up (y.2.1 + th.1 - 1) th.2).sum := by
  have p := sortP_perm xs
  have := leastGo_le (s := th.1) (b := th.2) hs hb (ys := sortP xs) (f := 0) (fun y m => h y (p.mem_iff.mp m)) (by simp)
  rw [sum_perm p] at this
  unfold leastG
  omega
end FM
namespace FM
open PySem PySem.Spec L2 PyProof.Rows
theorem zeros_flat (n : Nat) : (List.replicate n [PyData.int 0]).flatten = (List.replicate n (0 : Int)).map .int := by
  induction n with
  | zero => rfl
  | succ n ih => simp [List.replicate_succ, ih]
theorem natD_filter {p : Nat → Bool} {q : PD → Bool} (h : ∀ u, q (natD u) = p u) (l : List Nat) : (l.map natD).filter q = (l.filter p).map natD := by
  rw [List.filter_map]
  congr 1
  apply List.filter_congr
  intro u _
  exact h u
def natP (p : Nat → Bool) : PD → Bool
  | .int i => p i.toNat
  | _ => false
theorem natP_natD {p : Nat → Bool} (u : Nat) : natP p (natD u) = p u := by simp [natP, natD]
theorem take_succ_at {od : List Nat} {i t : Nat} (e : od[i]? = some t) : od.take (i + 1) = od.take i ++ [t] := by
  obtain ⟨hi, rfl⟩ := List.getElem?_eq_some_iff.mp e
  rw [List.take_add_one, List.getElem?_eq_getElem hi]
  rfl
theorem erase_perm : ∀ {xs : List Int} {i : Nat} {y : Int}, xs[i]? = some y → xs.Perm (y :: xs.eraseIdx i)
  | x :: xs, 0, y, e => by
    simp at e
    subst e
    exact .refl _
  | x :: xs, i + 1, y, e => by
    have ih := erase_perm (xs := xs) (i := i) (y := y) (by simpa using e)
    exact (List.Perm.cons x ih).trans (List.Perm.swap y x _)
  | [], _, _, e => by simp at e
theorem fSetI_n {ds : List Int} {t : Nat} {v : Int} (h : t < ds.length) : fSetI (ds.map .int) (.int (t : Int)) (.int v) = some ((ds.set t v).map .int) := by
  have e : ixN (ds.map PyData.int).length (t : Int) = some t := by
    unfold ixN
    rw [if_pos (by omega), if_pos (by simp; omega)]
    simp
  rw [fSetI_i, e, Option.map_some, List.map_set]
theorem mul_sum {α : Type} {g : α → Int} {b : Int} (xs : List α) : b * (xs.map g).sum = (xs.map fun x => g x * b).sum := by
  induction xs with
  | nil => simp
  | cons x xs ih => simp [Int.mul_add, ih, Int.mul_comm]
/-- a whole order, of things that are there -/
def okO (m : Nat) (od : List Nat) : Prop := od.Nodup ∧ ∀ t ∈ od, t < m
theorem nats_of {xs : List Int} {m : Nat} (h : xs.Perm (rngI m)) : ∃ od : List Nat, xs = od.map (fun t : Nat => (t : Int)) ∧ okO m od ∧ od.length = m := by
  have e : xs = (xs.map Int.toNat).map (fun t : Nat => (t : Int)) := by
    rw [List.map_map]
    have : ∀ x ∈ xs, ((fun t : Nat => (t : Int)) ∘ Int.toNat) x = x := fun x m => by
      have := rngI_mem (h.mem_iff.mp m)
      simp
      omega
    conv => lhs; rw [← List.map_id xs]
    apply List.map_congr_left
    intro x m
    exact (this x m).symm
  have p2 : (xs.map Int.toNat).Perm (List.range m) := by
    have := h.map Int.toNat
    unfold rngI at this
    rw [List.map_map] at this
    have e2 : (List.range m).map (Int.toNat ∘ fun i : Nat => (i : Int)) = List.range m := by
      conv => rhs; rw [← List.map_id (List.range m)]
      apply List.map_congr_left
      intro i _
      simp
    rwa [e2] at this
  refine ⟨xs.map Int.toNat, e, ⟨p2.nodup_iff.mpr List.nodup_range, fun t mt => List.mem_range.mp (p2.mem_iff.mp mt)⟩, ?_⟩
  rw [p2.length_eq, List.length_range]
theorem qLrg1_n {a : QE} {ρ : List O} {n : Nat} (hn : n ≤ 1000000) (h : a ρ = some (.fz (.int (n : Int)))) : qLrg1 a ρ = some (.lst ((rngI n).map .int)) := by
  have hb : big62 (n : Int) = true := big62_s (by omega) (by omega)
  have hd : decide ((n : Int).toNat ≤ 2 ^ 24) = true := decide_eq_true (by omega)
  unfold qLrg1
  rw [h]
  simp only [hb, hd, Bool.and_self, if_true]
  rw [Int.toNat_natCast, rngD_map]
end FM
namespace FM
open PySem PySem.Spec L2 PyProof.Rows
/-! ### comprehensions over a dict of one's own (locked meanwhile) -/
section
variable {H : Hp} {d : Addr} {ws : List (Key × V)} {od : Obj}
theorem rd_lock (hd : H d = some (.dK ws)) {a : Addr} {u : HO} (h : Rd H a u) : Rd (upd H d (.frz od (.dK ws))) a u := by
  by_cases e : a = d
  · subst e
    rcases h with h | ⟨o, h⟩
    · rw [hd] at h
      cases h
      exact .inr ⟨od, upd_same⟩
    · rw [hd] at h
      cases h
  · rcases h with h | ⟨o, h⟩
    · exact .inl (by rw [upd_ne e]; exact h)
    · exact .inr ⟨o, by rw [upd_ne e]; exact h⟩
mutual
theorem Own.lock {k : Kc} {F : Hp} (hd : H d = some (.dK ws)) : ∀ {v : V} {o : O} {S : List Addr}, Own k F H v o S → Own k F (upd H d (.frz od (.dK ws))) v o S
  | _, _, _, .fz h => .fz h
  | _, _, _, .lst h r => .lst (rd_lock hd h) r
  | _, _, _, .dic h r => .dic (rd_lock hd h) r
  | _, _, _, .dit h r => .dit (rd_lock hd h) r
  | _, _, _, .nst h r => .nst (rd_lock hd h) (Owns.lock hd r)
  | _, _, _, .ntp (a := a) h g r => .ntp (by rw [upd_ne (fun e => by rw [e, hd] at h; cases h)]; exact h) g (Owns.lock hd r)
  | _, _, _, .ndc h r => .ndc (rd_lock hd h) (OwnK.lock hd r)
  | _, _, _, .ins (a := a) h r => .ins (by rw [upd_ne (fun e => by rw [e, hd] at h; cases h)]; exact h) (OwnF.lock hd r)
  | _, _, _, .ktp h r => .ktp h r
  | _, _, _, .dead => .dead
theorem Owns.lock {k : Kc} {F : Hp} (hd : H d = some (.dK ws)) : ∀ {v : List V} {o : List O} {S : List Addr}, Owns k F H v o S → Owns k F (upd H d (.frz od (.dK ws))) v o S
  | _, _, _, .nil => .nil
  | _, _, _, .cons h r => .cons (Own.lock hd h) (Owns.lock hd r)
theorem OwnK.lock {k : Kc} {F : Hp} (hd : H d = some (.dK ws)) : ∀ {v : List (Key × V)} {o : List (Key × O)} {S : List Addr}, OwnK k F H v o S → OwnK k F (upd H d (.frz od (.dK ws))) v o S
  | _, _, _, .nil => .nil
  | _, _, _, .cons h r => .cons (Own.lock hd h) (OwnK.lock hd r)
theorem OwnF.lock {k : Kc} {F : Hp} (hd : H d = some (.dK ws)) : ∀ {v : List (Str × V)} {o : List (Str × O)} {S : List Addr}, OwnF k F H v o S → OwnF k F (upd H d (.frz od (.dK ws))) v o S
  | _, _, _, .nil => .nil
  | _, _, _, .cons h r => .cons (Own.lock hd h) (OwnF.lock hd r)
end
theorem Envs.lock {k : Kc} {F : Hp} (hd : H d = some (.dK ws)) : ∀ {σ : L2.St} {ρ : List O} {S : List Addr}, Envs k F H σ ρ S → Envs k F (upd H d (.frz od (.dK ws))) σ ρ S
  | _, _, _, .nil => .nil
  | _, _, _, .dead r => .dead (Envs.lock hd r)
  | _, _, _, .cons w r => .cons (w.lock hd) (Envs.lock hd r)
end
def keysD (ds : List (Key × PD)) : List PD := ds.map fun p => keyD p.1
def qKeysD (i : Nat) : QI := fun ρ => match qVar i ρ with
  | some (.dic ds) => some (keysD ds)
  | _ => none
theorem RepK.key {K : Frag} {F : Hp} {k : Key} {v : V} : ∀ {vs : List (Key × V)} {ds : List (Key × PD)} {i : Nat}, RepK K F vs ds → vs[i]? = some (k, v) → (keysD ds)[i]? = some (keyD k)
  | (_, _) :: _, (_, _) :: _, 0, .cons h r, e => by
    simp at e
    obtain ⟨rfl, rfl⟩ := e
    rfl
  | _, _, i + 1, .cons h r, e => by
    have := RepK.key (i := i) r (by simpa using e)
    simpa [keysD] using this
theorem rep_key {K : Frag} {F : Hp} : ∀ k : Key, Rep K F (kV k) (keyD k)
  | .inl i => .int i
  | .inr x => .str x
section
variable {k : Kc} {E : XK} {i : Nat}
def wiL (i : Nat) : TI := fun σ H R => (∃ (d : Addr) (o : Obj) (ws : List (Key × V)), σ[i]? = some (some (.ref d)) ∧ H d = some (.frz o (.dK ws))) → iKeys (tVar i) σ H R
theorem tiv_keysL : TIv k (wiL i) (qKeysD i) := by
  rintro F H σ ρ S xs R q e g ⟨d, o, ws, a1, a2⟩
  unfold qKeysD at e
  split at e
  · rename_i ds e0
    cases e
    obtain ⟨g1, g2⟩ := qVar_some e0
    obtain ⟨v, T, U, b1, b2, b3, b4⟩ := q.env.take g1 g2
    rw [a1] at b1
    cases b1
    cases b2 with
    | @dic a ws' _ h r =>
      have ew : ws' = ws := by
        rcases h with h | ⟨o', h⟩
        · rw [a2] at h
          cases h
        · rw [a2] at h
          cases h
          rfl
      subst ew
      have hl : (keysD ds).length = ws'.length := by rw [r.len', keysD, List.length_map]
      refine ⟨_, a1, d, o, rfl, .inl ⟨ws', a2, g _ F H (Xt.refl q.fle) ⟨fun j F2 H2 hj p f => ?_, fun F2 H2 p f => ?_, fun j F2 H2 x H3 hj p f y => ?_⟩⟩⟩
      · exact walk_keys.goes j H2 (by omega) (p.ex d _ a2)
      · rw [hl]
        exact walk_keys.stops H2 (p.ex d _ a2)
      · obtain ⟨rfl, kk, vv, e1, rfl⟩ := walk_keys.yields j H2 x H3 (by omega) (p.ex d _ a2) y
        have e2 := r.key e1
        rw [List.getElem?_eq_getElem hj] at e2
        rw [Option.some.inj e2]
        exact ⟨F2, Xt.refl f, rep_key kk⟩
  · cases e
theorem tem_lck {g : TG} {tt : TT} {te : TE} {vs : List Nat} {f : QG} {c : List O → Option Bool} {qe : QE} {J : List Nat} (hg : TGq k g f J) (hJ : ∀ j ∈ J, j ∈ vs) (ht : TTv k tt c) (he : TEv k te qe) :
    TEm k E (tLockE (tLc (iKeys (tVar i)) g tt te vs)) (mNew (qLc (qKeysD i) f c qe vs)) := by
  intro P e σ ρ us os H Q s r
  obtain ⟨F, S1, S2, s⟩ := s
  unfold mNew at r
  cases e1 : qLc (qKeysD i) f c qe vs ρ with
  | none => rw [e1] at r; exact r.elim
  | some o =>
    rw [e1] at r
    have e0 : ∃ ds, qVar i ρ = some (.dic ds) := by
      unfold qLc qKeysD at e1
      cases z : qVar i ρ with
      | none => rw [z] at e1; cases e1
      | some w =>
        cases w with
        | dic ds => exact ⟨ds, rfl⟩
        | _ => rw [z] at e1; cases e1
    obtain ⟨ds, e0⟩ := e0
    obtain ⟨g1, g2⟩ := qVar_some e0
    obtain ⟨v, T, U, b1, b2, b3, b4⟩ := s.env.take g1 g2
    cases b2 with
    | @dic d ws _ h rr =>
      have md : d ∈ S1 := b4.mem_iff.mp (by simp)
      have md2 : d ∈ S1 ++ S2 := List.mem_append_left _ md
      have hd : H d = some (.dK ws) := by
        rcases h with h | ⟨o', h⟩
        · exact h
        · exact (s.fr.nofz d md2 o' _ h).elim
      have hF : F d = none := s.fr.off d md2
      refine ⟨d, .dK ws, hd, trivial, fun od => ?_⟩
      have qs : Qs k F (upd H d (.frz od (.dK ws))) σ ρ S1 := by
        refine ⟨fun a u z => ?_, s.env.lock hd, s.qs.off⟩
        have ne : a ≠ d := fun w => by rw [w, hF] at z; cases z
        rw [upd_ne ne]
        exact s.fr.fle a u z
      have back : ∀ {a : Addr}, (upd H d (.frz od (.dK ws))) a = none → a ≠ d ∧ H a = none := fun {a} z => by
        have ne : a ≠ d := fun w => by rw [w, upd_same] at z; cases z
        rw [upd_ne ne] at z
        exact ⟨ne, z⟩
      have t := ten_lc (wi := wiL i) tiv_keysL hg hJ ht he F (upd H d (.frz od (.dK ws))) σ ρ S1 o (fun v H2 => H2 d = some (.frz od (.dK ws)) ∧ Q v (upd H2 d (.dK ws))) qs e1 fun v F2 H2 T2 x w fr => by
        refine ⟨x.ex d _ upd_same, ?_⟩
        have neT : ∀ a ∈ T2, a ≠ d := fun a m => (back (fr.new a m)).1
        have x2 : Xt F H F2 (upd H2 d (.dK ws)) := by
          refine ⟨fun a u z => ?_, x.sub, fun a u z => ?_, fun a u z => ?_⟩
          · by_cases ne : a = d
            · subst ne
              rw [hd] at z
              rw [upd_same]
              exact z
            · rw [upd_ne ne]
              exact x.ex a u (by rw [upd_ne ne]; exact z)
          · have ne : a ≠ d := fun w => by
              subst w
              rcases x.fresh a u z with z2 | z2 | ⟨g, z2⟩
              · rw [hF] at z2; cases z2
              · rw [upd_same] at z2; cases z2
              · rw [upd_same] at z2
                cases z2
                obtain ⟨_, g⟩ := g
                cases g
            rw [upd_ne ne]
            exact x.fle a u z
          · rcases x.fresh a u z with z2 | z2 | ⟨g, z2⟩
            · exact .inl z2
            · exact .inr (.inl (back z2).2)
            · have ne : a ≠ d := fun w => by
                subst w
                rw [upd_same] at z2
                cases z2
                obtain ⟨_, g⟩ := g
                cases g
              rw [upd_ne ne] at z2
              exact .inr (.inr ⟨g, z2⟩)
        have w2 : Own k F2 (upd H2 d (.dK ws)) v o T2 := Own.mono (Same.refl F2) (fun a m u z => by rw [upd_ne (neT a m)]; exact z) w
        have f2 : Fresh F2 H (upd H2 d (.dK ws)) T2 := ⟨fr.nd, fun a m => (back (fr.new a m)).2, fr.off, fun a m o' u' z => by
          rw [upd_ne (neT a m)] at z
          exact fr.nofz a m o' u' z⟩
        exact r v _ ⟨F2, S1, T2 ++ S2, s.push x2 w2 f2⟩
      exact t ⟨d, od, ws, b1, upd_same⟩
@[simp] theorem qKeysD_eq {ρ : List O} : qKeysD i ρ = match qVar i ρ with
    | some (.dic ds) => some (keysD ds)
    | _ => none := rfl
end
theorem pe_lcK {X : Cx} {elt tg iter : Expr} {ifs : List Expr} {scope : Scope} {own : List (Str × Nat)} {pos : Pos} {wi : TI} {g : TG} {tt : TT} {te : TE} (hc : X.calm = true) (hN : X.N.Nodup) (hi : PI X tg iter wi) (ok : BlkOk X.N X.env.scope scope own)
    (hg : ∀ (s : Shared) (H : Hp) (C : Addr) (cl : List (Str × Addr)) (fp : List Addr), PG (X.blk s H scope (compEnvC scope cl C X.env) fp) tg g)
    (ht : ∀ (s : Shared) (H : Hp) (C : Addr) (cl : List (Str × Addr)) (fp : List Addr), PTs (X.blk s H scope (compEnvC scope cl C X.env) fp) ifs tt)
    (he : ∀ (s : Shared) (H : Hp) (C : Addr) (cl : List (Str × Addr)) (fp : List Addr), PE (X.blk s H scope (compEnvC scope cl C X.env) fp) elt te) (hs : ∀ x, foldedSetIterable iter X.env x = pure x := by intro _; rfl) :
    PE X (.ListComp elt [⟨tg, iter, ifs, 0⟩] scope pos) (tLockE (tLc wi g tt te (own.map (·.2)))) := pe_lock (pe_lc hc hN hi ok hg ht he hs)
theorem ps_setLcK {X : Cx} {i : Nat} {y : Str} {py : Pos} {elt tg iter : Expr} {ifs : List Expr} {scope : Scope} {own : List (Str × Nat)} {pos spos : Pos} {wi : TI} {g : TG} {tt : TT} {te : TE} (hc : X.calm = true) (hN : X.N.Nodup) (hy : X.N[i]? = some y) (hyl : X.env.scope.names.lookup y = some .local)
    (hsw : swapsWith (.ListComp elt [⟨tg, iter, ifs, 0⟩] scope pos) (some (.Name y py)) spos.line X.env = pure true) (hi : PI X tg iter wi) (ok : BlkOk X.N X.env.scope scope own)
    (hg : ∀ (s : Shared) (H : Hp) (C : Addr) (cl : List (Str × Addr)) (fp : List Addr), PG (X.blk s H scope (compEnvC scope cl C X.env) fp) tg g)
    (ht : ∀ (s : Shared) (H : Hp) (C : Addr) (cl : List (Str × Addr)) (fp : List Addr), PTs (X.blk s H scope (compEnvC scope cl C X.env) fp) ifs tt)
    (he : ∀ (s : Shared) (H : Hp) (C : Addr) (cl : List (Str × Addr)) (fp : List Addr), PE (X.blk s H scope (compEnvC scope cl C X.env) fp) elt te) (hs : ∀ x, foldedSetIterable iter X.env x = pure x := by intro _; rfl) :
    PS X (.Assign [.Name y py] (.ListComp elt [⟨tg, iter, ifs, 0⟩] scope pos) spos) (tAsg (tLockE (tLc wi g tt te (own.map (·.2)))) (gName i)) :=
  ⟨fun pins s σ H D I h => (ps_lock (ps_setLc hc hN hy hyl hsw hi ok hg ht he hs)).run pins s σ H D I h⟩
end FM
namespace FM
open PySem PySem.Spec L2 PyProof.Rows
open PySem.W (dataLe alike dataLt)
/-! ### the least place is the least free one -/
/-- free of all of them -/
def freeG (s p : Int) (xs : List (Int × (Int × Int))) : Prop := ∀ x ∈ xs, lieO p s x.1 x.2.1 = false
theorem lieO_false {p s q t : Int} : lieO p s q t = false ↔ (q + t ≤ p ∨ p + s ≤ q) := by
  unfold lieO
  rw [Bool.and_eq_false_iff, decide_eq_false_iff_not, decide_eq_false_iff_not]
  omega
theorem lieO_true {p s q t : Int} : lieO p s q t = true ↔ (p < q + t ∧ q < p + s) := by
  unfold lieO
  rw [Bool.and_eq_true, decide_eq_true_eq, decide_eq_true_eq]
/-- what the going on by order of places comes to -/
theorem leastGo_is {s b : Int} (hs : 1 ≤ s) (hb : 1 ≤ b) : ∀ {ys done : List (Int × (Int × Int))} {f : Int}, (∀ y ∈ ys, 1 ≤ y.2.1) → (ys.Pairwise fun x y => x.1 ≤ y.1) → (∀ x ∈ done, ∀ y ∈ ys, x.1 ≤ y.1) → f % b = 0 → 0 ≤ f → freeG s f done → (∀ q, 0 ≤ q → q % b = 0 → q < f → ¬ freeG s q done) → (f = 0 ∨ ∃ x ∈ done, f = up (x.1 + x.2.1) b) →
    leastGo s b f ys % b = 0 ∧ 0 ≤ leastGo s b f ys ∧ freeG s (leastGo s b f ys) (done ++ ys) ∧ (∀ q, 0 ≤ q → q % b = 0 → q < leastGo s b f ys → ¬ freeG s q (done ++ ys)) ∧ (leastGo s b f ys = 0 ∨ ∃ x ∈ done ++ ys, leastGo s b f ys = up (x.1 + x.2.1) b)
  | [], done, f, _, _, _, h1, h2, h3, h4, h5 => by
    rw [List.append_nil]
    exact ⟨h1, h2, h3, h4, h5⟩
  | y :: ys, done, f, hp, hw, hd, h1, h2, h3, h4, h5 => by
    obtain ⟨w1, w2⟩ := List.pairwise_cons.mp hw
    have e : done ++ y :: ys = (done ++ [y]) ++ ys := by simp
    have hd2 : ∀ x ∈ done ++ [y], ∀ z ∈ ys, x.1 ≤ z.1 := fun x mx z mz => by
      rcases List.mem_append.mp mx with mx | mx
      · exact hd x mx z (List.mem_cons_of_mem _ mz)
      · rw [List.mem_singleton.mp mx]
        exact w1 z mz
    have hp2 : ∀ z ∈ ys, 1 ≤ z.2.1 := fun z m => hp z (List.mem_cons_of_mem _ m)
    have hy := hp y List.mem_cons_self
    obtain ⟨u1, u2⟩ := up_is (e := y.1 + y.2.1) (b := b) (by omega)
    have sub : ∀ q, freeG s q (done ++ [y]) → freeG s q done := fun q h x m => h x (List.mem_append_left _ m)
    rw [e]
    show leastGo s b (if lieO f s y.1 y.2.1 then up (y.1 + y.2.1) b else f) ys % b = 0 ∧ _
    by_cases c : lieO f s y.1 y.2.1 = true
    · obtain ⟨c1, c2⟩ := lieO_true.mp c
      have eq : leastGo s b f (y :: ys) = leastGo s b (up (y.1 + y.2.1) b) ys := by simp [leastGo, c]
      rw [if_pos c, eq]
      refine leastGo_is hs hb hp2 w2 hd2 up_mod (by omega) (fun x mx => ?_) (fun q q1 q2 q3 q4 => ?_) (.inr ⟨y, by simp, rfl⟩)
      · rcases List.mem_append.mp mx with mx | mx
        · have g := lieO_false.mp (h3 x mx)
          have g2 := hd x mx y List.mem_cons_self
          exact lieO_false.mpr (by omega)
        · rw [List.mem_singleton.mp mx]
          exact lieO_false.mpr (.inl u1)
      · rcases Int.lt_or_le q f with z | z
        · exact h4 q q1 q2 z (sub q q4)
        · have g := lieO_false.mp (q4 y (by simp))
          rcases g with g | g
          · have := up_uniq (n := y.1 + y.2.1) (b := b) (p := q) (by omega) g (by omega) q2
            omega
          · omega
    · have c' : lieO f s y.1 y.2.1 = false := by simpa using c
      have eq : leastGo s b f (y :: ys) = leastGo s b f ys := by simp [leastGo, c']
      rw [if_neg c, eq]
      refine leastGo_is hs hb hp2 w2 hd2 h1 h2 (fun x mx => ?_) (fun q q1 q2 q3 q4 => h4 q q1 q2 q3 (sub q q4)) ?_
      · rcases List.mem_append.mp mx with mx | mx
        · exact h3 x mx
        · rw [List.mem_singleton.mp mx]
          exact c'
      · rcases h5 with h5 | ⟨x, mx, h5⟩
        · exact .inl h5
        · exact .inr ⟨x, List.mem_append_left _ mx, h5⟩
theorem le_encP {x y : Int × (Int × Int)} (h : dataLe false encP x y = true) : x.1 ≤ y.1 := by
  rcases Int.lt_or_le y.1 x.1 with z | z
  · have e : dataLt (encP y) (encP x) = true := by
      unfold encP
      rw [PySem.W.dataLt_pair (by simp [alike]) (by simp [thD, alike, PySem.W.alikeAll])]
      have n : PyData.eqv (.int y.1) (.int x.1) = false := by simp [PyData.eqv]; omega
      rw [n]
      simp only [Bool.false_eq_true, if_false]
      rw [PySem.W.dataLt_int]
      exact decide_eq_true z
    rw [PySem.W.dataLe_eq] at h
    simp [e] at h
  · exact z
theorem sortP_sorted (xs : List (Int × (Int × Int))) : (sortP xs).Pairwise fun x y => x.1 ≤ y.1 := by
  have := PySem.W.sort_pairwise (le := dataLe false encP) (PySem.W.sortLe_total (PyProof.Rows.listOrd PyProof.Rows.itemOrd) false fun b => PySem.W.keyToks (encP b)) xs
  exact this.imp fun h => le_encP h
theorem leastG_is {th : Int × Int} {xs : List (Int × (Int × Int))} (hs : 1 ≤ th.1) (hb : 1 ≤ th.2) (h : ∀ y ∈ xs, 1 ≤ y.2.1) :
    leastG th xs % th.2 = 0 ∧ 0 ≤ leastG th xs ∧ freeG th.1 (leastG th xs) xs ∧ (∀ q, 0 ≤ q → q % th.2 = 0 → q < leastG th xs → ¬ freeG th.1 q xs) ∧ (leastG th xs = 0 ∨ ∃ x ∈ xs, leastG th xs = up (x.1 + x.2.1) th.2) := by
  have p := sortP_perm xs
  have fr : ∀ {q : Int}, freeG th.1 q (sortP xs) ↔ freeG th.1 q xs := fun {q} => ⟨fun f x m => f x (p.mem_iff.mpr m), fun f x m => f x (p.mem_iff.mp m)⟩
  obtain ⟨r1, r2, r3, r4, r5⟩ := leastGo_is (s := th.1) (b := th.2) hs hb (ys := sortP xs) (done := []) (f := 0) (fun y m => h y (p.mem_iff.mp m)) (sortP_sorted xs) (fun x m => by cases m) (by simp) (Int.le_refl _) (fun x m => by cases m) (fun q q1 _ q3 => by omega) (.inl rfl)
  rw [List.nil_append] at r3 r4 r5
  refine ⟨r1, r2, fr.mp r3, fun q q1 q2 q3 q4 => r4 q q1 q2 q3 (fr.mpr q4), ?_⟩
  rcases r5 with r5 | ⟨x, mx, r5⟩
  · exact .inl r5
  · exact .inr ⟨x, p.mem_iff.mp mx, r5⟩
/-- of numbers that rise, the first one that is so -/
theorem find_least {P : Int → Bool} {v : Int} : ∀ {cs : List Int}, cs.Pairwise (· ≤ ·) → v ∈ cs → P v = true → (∀ c ∈ cs, P c = true → v ≤ c) → cs.find? P = some v
  | c :: cs, hw, m, hv, hm => by
    obtain ⟨w1, w2⟩ := List.pairwise_cons.mp hw
    rw [List.find?_cons]
    cases e : P c with
    | true =>
      have g := hm c List.mem_cons_self e
      rcases List.mem_cons.mp m with z | z
      · simp [z]
      · have := w1 v z
        have : c = v := by omega
        simp [this]
    | false =>
      simp only
      rcases List.mem_cons.mp m with z | z
      · rw [z, e] at hv
        cases hv
      · exact find_least w2 z hv fun d md hd => hm d (List.mem_cons_of_mem _ md) hd
  | [], _, m, _, _ => by cases m
end FM
namespace FM
open PySem PySem.Spec L2 PyProof.Rows
theorem nats_of2 {xs : List Int} {m : Nat} (h : xs.Perm (rngI m)) : ∃ od : List Nat, xs = od.map (fun t : Nat => (t : Int)) ∧ okO m od ∧ od.length = m ∧ ∀ t, t < m → t ∈ od := by
  obtain ⟨od, e, h1, h2⟩ := nats_of h
  refine ⟨od, e, h1, h2, fun t ht => ?_⟩
  subst e
  have : (t : Int) ∈ rngI m := by
    unfold rngI
    exact List.mem_map.mpr ⟨t, List.mem_range.mpr ht, rfl⟩
  have := h.mem_iff.mpr this
  obtain ⟨u, mu, e⟩ := List.mem_map.mp this
  have : u = t := by omega
  rw [← this]
  exact mu
theorem buildG_fix {f : List Int → List Nat → Nat → Int} (hf : ∀ l l' pre t, (∀ u ∈ pre, l.getD u 0 = l'.getD u 0) → f l pre t = f l' pre t) : ∀ {r pre : List Nat} {l : List Int}, (pre ++ r).Nodup → (∀ t ∈ r, t < l.length) →
    (∀ u ∈ pre, (buildG f pre r l).getD u 0 = l.getD u 0) ∧ ∀ j t, r[j]? = some t → (buildG f pre r l).getD t 0 = f (buildG f pre r l) (pre ++ r.take j) t
  | [], _, _, _, _ => ⟨fun _ _ => rfl, fun j t e => by simp at e⟩
  | t :: r, pre, l, hn, hl => by
    have ht := hl t List.mem_cons_self
    have hn2 : ((pre ++ [t]) ++ r).Nodup := by rw [List.append_assoc]; exact hn
    have nt : t ∉ pre := fun m => (List.nodup_append.mp hn).2.2 t m t List.mem_cons_self rfl
    obtain ⟨i1, i2⟩ := buildG_fix hf (r := r) (pre := pre ++ [t]) (l := l.set t (f l pre t)) hn2 fun u m => by rw [List.length_set]; exact hl u (List.mem_cons_of_mem _ m)
    have e0 : buildG f pre (t :: r) l = buildG f (pre ++ [t]) r (l.set t (f l pre t)) := rfl
    have k1 : ∀ u ∈ pre, (buildG f pre (t :: r) l).getD u 0 = l.getD u 0 := fun u m => by
      rw [e0, i1 u (List.mem_append_left _ m), getD_set ht, if_neg (fun e => nt (by rw [e]; exact m))]
    refine ⟨k1, fun j v e => ?_⟩
    cases j with
    | zero =>
      simp at e
      subst e
      rw [List.take_zero, List.append_nil]
      have h1 := i1 t (by simp)
      rw [getD_set ht, if_pos rfl] at h1
      rw [e0, h1]
      exact hf _ _ _ _ fun u m => by rw [← e0, k1 u m]
    | succ j =>
      have := i2 j v (by simpa using e)
      rw [e0, this]
      simp
theorem oIx_dic {kvs : List (Key × PD)} {i : Int} : oIx (.dic kvs) (.fz (.int i)) = (lk kvs (.inl i)).map .fz := by
  have e2 : oLook (.dic kvs) (.fz (.int i)) = some (lk kvs (.inl i)) := rfl
  show (match oLook (.dic kvs) (.fz (.int i)) with | some (some d) => some (O.fz d) | _ => none) = _
  rw [e2]
  cases lk kvs (.inl i) <;> rfl
def kvI (l : List Int) (od : List Nat) : List (Key × PD) := od.map fun t : Nat => ((Sum.inl (t : Int) : Key), PyData.int (l.getD t 0))
theorem kvI_lk {l : List Int} {t : Nat} : ∀ {od : List Nat}, t ∈ od → lk (kvI l od) (.inl (t : Int)) = some (.int (l.getD t 0))
  | u :: od, m => by
    show lk (((Sum.inl (u : Int) : Key), PyData.int (l.getD u 0)) :: kvI l od) _ = _
    rw [lk_cons]
    by_cases e : u = t
    · rw [if_pos (by rw [e]), e]
    · rw [if_neg (fun z => e (by have := Sum.inl.inj z; omega))]
      rcases List.mem_cons.mp m with z | z
      · exact (e z.symm).elim
      · exact kvI_lk z
theorem kvI_put {l : List Int} {t : Nat} {v : Int} {od : List Nat} (h : t ∉ od) (ht : t < l.length) : putD (kvI l od) (.inl (t : Int)) (.int v) = kvI (l.set t v) (od ++ [t]) := by
  rw [putD_new fun p m e => by
    obtain ⟨u, mu, rfl⟩ := List.mem_map.mp m
    have := Sum.inl.inj e
    exact h (by have : u = t := by omega
                rw [← this]; exact mu)]
  unfold kvI
  rw [List.map_append]
  congr 1
  · apply List.map_congr_left
    intro u mu
    rw [getD_set ht, if_neg (fun e => h (by rw [e]; exact mu))]
  · rw [List.map_cons, List.map_nil, getD_set ht, if_pos rfl]
theorem kvI_keys {l : List Int} {od : List Nat} : keysD (kvI l od) = od.map natD := by
  unfold keysD kvI
  rw [List.map_map]
  rfl
theorem getD_all {l : List Int} {n : Nat} (h : l.length = n) : (List.range n).map (fun t => l.getD t 0) = l := by
  subst h
  apply List.ext_getElem
  · simp
  · intro i h1 h2
    simp [h2]
def freeB (s : Int) (xs : List (Int × (Int × Int))) (p : Int) : Bool := xs.all fun x => decide (x.1 + x.2.1 ≤ p) || decide (p + s ≤ x.1)
theorem freeB_iff {s p : Int} {xs : List (Int × (Int × Int))} : freeB s xs p = true ↔ freeG s p xs := by
  unfold freeB freeG
  rw [List.all_eq_true]
  constructor
  · intro h x m
    have := h x m
    simp at this
    exact lieO_false.mpr this
  · intro h x m
    have := lieO_false.mp (h x m)
    simpa using this
theorem rgC_up {j c : Int} (h0 : 0 ≤ j) (h1 : j ≤ 200) (c1 : 1 ≤ c) (c2 : c ≤ 64) : rgC 0 j c = true ∧ ∀ y ∈ rngC 0 c (Builtin.Range.rangeSize 0 j c).toNat, ∃ q : Int, y = .int q ∧ 0 ≤ q ∧ q < j ∧ q % c = 0 := by
  have hd0 : 0 ≤ (j - 0 - 1) / c ∨ j ≤ 0 := by
    rcases Int.lt_or_le 0 j with z | z
    · exact .inl (Int.ediv_nonneg (by omega) (by omega))
    · exact .inr z
  have hd1 : 0 < j → (j - 0 - 1) / c ≤ j - 0 - 1 := fun z => Int.ediv_le_self _ (by omega)
  refine ⟨?_, fun y m => ?_⟩
  · unfold rgC
    simp only [Bool.and_eq_true, decide_eq_true_eq]
    refine ⟨⟨by omega, by omega⟩, ?_⟩
    unfold Builtin.Range.small Builtin.Range.rangeSize
    simp only [Builtin.Range.rangeFitsLong, Bool.and_eq_true, Bool.or_eq_true, decide_eq_true_eq, beq_iff_eq, show c > 0 by omega, if_true]
    split <;> omega
  · unfold rngC at m
    obtain ⟨i, mi, rfl⟩ := List.mem_map.mp m
    have hi := List.mem_range.mp mi
    refine ⟨_, rfl, ?_, ?_, ?_⟩
    · have := Int.mul_nonneg (Int.natCast_nonneg i) (by omega : 0 ≤ c)
      omega
    · unfold Builtin.Range.rangeSize at hi
      rw [if_pos (by omega)] at hi
      split at hi
      · have h3 : (i : Int) ≤ (j - 0 - 1) / c := by omega
        have h4 := Int.mul_le_mul_of_nonneg_right h3 (by omega : 0 ≤ c)
        have h5 := Int.ediv_mul_le (j - 0 - 1) (by omega : c ≠ 0)
        omega
      · omega
    · simp
end FM
namespace FM
open PySem PySem.Spec L2 PyProof.Rows
/-! ### max(.., default=..), and a list taken apart -/
def rMaxD (K : Frag) : List V → List V → Hp → VK → Prop := fun vs zs H Q => ∃ (a : Addr) (ns : List Int) (d : V), vs = [V.ref a] ∧ zs = [d] ∧ SqL K H a (ns.map V.int) ∧ (ns = [] → Q d H) ∧ ∀ n r, ns = n :: r → Q (.int (r.foldl max n)) H
theorem reads_ints {h : Heap} : ∀ {ns : List Int} {us : List Value}, Vals (ns.map V.int) us → ∃ as, ReadsAll h us (ns.map .int) as
  | [], _, r => by
    cases r
    exact ⟨[], .nil⟩
  | n :: ns, _, r => by
    cases r with
    | cons e t =>
      obtain ⟨tk, rfl⟩ := e
      obtain ⟨as, q⟩ := reads_ints (h := h) t
      exact ⟨_, .cons (.int n tk) q⟩
theorem alike_intsA (ns : List Int) : PySem.W.AlikeAll (ns.map .int) := by
  refine ⟨fun x m y m2 => ?_, fun x m => ?_⟩
  · obtain ⟨i, _, rfl⟩ := List.mem_map.mp m
    obtain ⟨j, _, rfl⟩ := List.mem_map.mp m2
    simp [PySem.W.alike]
  · obtain ⟨i, _, rfl⟩ := List.mem_map.mp m
    simp
theorem cr_maxD {X : Cx} (hc : X.calm = true) (hu : X.A.units + 1 < cLine) : CallRK X (.builtin "max") [Str.ofString "default"] (rMaxD X.K) := by
  intro pins s σ H xs zs us ws Q I r1 r2 h
  obtain ⟨a, ns, d, rfl, rfl, hs, q0, q1⟩ := h
  obtain ⟨its, rv, hl, _⟩ := I.list hs
  rw [Vals.ref1 r1]
  cases r2 with
  | cons rd t =>
    cases t
    obtain ⟨as, ra⟩ := reads_ints (h := s.heap) rv
    refine PySem.W.max_list_default (xs := ns.map .int) (I.ok.hd hc) hl.isList (by simpa using ra) (alike_intsA ns) (by rw [depth_ints]; omega) (fun e h' tk hk => ?_) fun y ys i v h' tk bs e hv rd2 hk => ?_
    · exact ⟨d, H, I.kept hk, rd, q0 (by simpa using e)⟩
    · cases ns with
      | nil => cases e
      | cons n r =>
        rw [List.map_cons] at e
        injection e with e1 e2
        subst e1 e2
        rw [PySem.W.maxD_ints] at rd2
        cases rd2
        exact ⟨.int _, H, I.kept hk, ⟨_, rfl⟩, q1 n r rfl⟩
def oMaxD : List O → List O → Option O
  | [x], [.fz (.int d)] => match seqL x with
    | some ds => match intsD ds with
      | some [] => some (.fz (.int d))
      | some (n :: r) => some (.fz (.int (r.foldl max n)))
      | none => none
    | none => none
  | _, _ => none
section
variable {k : Kc} {E : XK}
def qCbK (f : List O → List O → Option O) (r z : List O → Option (List O)) : QE := fun ρ => match r ρ with
  | none => none
  | some os => match z ρ with
    | none => none
    | some ps => f os ps
theorem tev_maxD {t tk : TA} {qs qz : List O → Option (List O)} (ha : TAv k t qs) (hb : TAv k tk qz) : TEv k (tCKw (rMaxD k.K) t tk) (qCbK oMaxD qs qz) := by
  intro F H σ ρ S o Q q e h
  unfold qCbK at e
  split at e
  · cases e
  · rename_i os e1
    split at e
    · cases e
    · rename_i ps e2
      refine ha F H σ ρ S os _ q e1 fun vs F1 H1 x1 w1 => hb F1 H1 σ ρ S ps _ (q.xt x1) e2 fun zs F2 H2 x2 w2 => ?_
      have w3 := w1.xt x2
      unfold oMaxD at e
      split at e
      · rename_i x d
        cases w3 with
        | cons w ww =>
          cases ww
          cases w2 with
          | cons z zz =>
            cases zz
            have ez := z.int
            subst ez
            split at e
            · rename_i ds es
              obtain ⟨a, us, rfl, g1, g2⟩ := w.seqL x2.fle es
              split at e
              · rename_i en
                cases e
                have e3 := intsD_eq en
                subst e3
                rw [reps_ints g2] at g1
                exact ⟨a, [], _, rfl, rfl, g1, fun _ => h _ F2 H2 (x1.trans x2) (.fz (.int _)), fun n r e => by cases e⟩
              · rename_i n r en
                cases e
                have e3 := intsD_eq en
                subst e3
                rw [reps_ints g2] at g1
                exact ⟨a, n :: r, _, rfl, rfl, g1, (fun e => by cases e), fun n' r' e => by cases e; exact h _ F2 H2 (x1.trans x2) (.fz (.int _))⟩
              · cases e
            · cases e
      · cases e
def fLst (n : Nat) (f : List PD → List O → Option (List O)) : QG := fun d ρ => match d with
  | .list ds => if ds.length = n then f ds ρ else none
  | _ => none
theorem tgq_lst {gs : TGs} {fs : List PD → List O → Option (List O)} {J : List Nat} {n : Nat} (h1 : TGsq k gs fs J) : TGq k (gLst k.K n gs) (fLst n fs) J := by
  intro F H σ ρ ρ' S v d Q q r e h
  unfold fLst at e
  split at e
  · split at e
    · rename_i ds hn
      cases r with
      | lst a1 a2 => exact ⟨_, _, rfl, sqL_le q.fle a1, by rw [a2.length]; exact hn, h1 F H σ ρ ρ' S _ ds Q q a2 e h⟩
      | dic _ _ e => cases e
      | dit _ _ e => cases e
    · cases e
  · cases e
@[simp] theorem fLst_eq {n : Nat} {f : List PD → List O → Option (List O)} {ds : List PD} {ρ : List O} : fLst n f (.list ds) ρ = if ds.length = n then f ds ρ else none := rfl
@[simp] theorem qCbK_eq {f : List O → List O → Option O} {r z : List O → Option (List O)} {ρ : List O} : qCbK f r z ρ = match r ρ with
    | none => none
    | some os => match z ρ with
      | none => none
      | some ps => f os ps := rfl
theorem foldl_max_le {n m : Int} : ∀ {r : List Int}, (n ≤ m ∧ ∀ x ∈ r, x ≤ m) → r.foldl max n ≤ m := by
  intro r
  induction r generalizing n with
  | nil => intro h; exact h.1
  | cons x r ih =>
    intro h
    have hx := h.2 x List.mem_cons_self
    exact ih ⟨by omega, fun y my => h.2 y (List.mem_cons_of_mem _ my)⟩
theorem le_foldl_max {n : Int} : ∀ {r : List Int}, n ≤ r.foldl max n ∧ ∀ x ∈ r, x ≤ r.foldl max n := by
  intro r
  induction r generalizing n with
  | nil => exact ⟨Int.le_refl _, fun x m => by cases m⟩
  | cons x r ih =>
    have i := ih (n := max n x)
    refine ⟨by have := i.1; simp only [List.foldl_cons]; omega, fun y my => ?_⟩
    rcases List.mem_cons.mp my with e | my
    · have := i.1
      simp only [List.foldl_cons]
      omega
    · exact i.2 y my
end
end FM
namespace FM
open PySem PySem.Spec L2 PyProof.Rows
/-! ### a comprehension in a comprehension -/
theorem relook {p : Str → NameKind → Bool} : ∀ {names : List (Str × NameKind)} {x : Str}, (names.lookup x = some .cell ∨ names.lookup x = some .free) → ((names.map fun (n, k) => if p n k then (n, NameKind.cell) else (n, k)).lookup x = some .cell ∨ (names.map fun (n, k) => if p n k then (n, NameKind.cell) else (n, k)).lookup x = some .free)
  | [], _, h => by simp at h
  | (n, k) :: r, x, h => by
    by_cases e : (x == n) = true
    · rw [List.lookup_cons, e] at h
      simp only [Option.some.injEq] at h
      rw [List.map_cons]
      simp only
      split
      · rw [List.lookup_cons, e]
        exact .inl rfl
      · rw [List.lookup_cons, e]
        simpa using h
    · have e' : (x == n) = false := by simpa using e
      rw [List.lookup_cons, e'] at h
      rw [List.map_cons]
      simp only at h ⊢
      have ih := relook (p := p) h
      split
      · rw [List.lookup_cons, e']
        exact ih
      · rw [List.lookup_cons, e']
        exact ih
theorem blkOk_rel {N : List Str} {inner scope : Scope} {own : List (Str × Nat)} {env : Env} (h : BlkOk N inner scope own) : BlkOk N (relabel inner env) scope own :=
  ⟨h.kind, h.uniq, h.ix, fun y m e => relook (p := fun n k => k == NameKind.free && env.scope.kind == .function && env.kindOf n == some .cell) (h.free y m e), h.own⟩
end FM
namespace FM
open PySem PySem.Spec L2 PyProof.Rows
/-! ### the least number that all borders divide -/
def lcmL : List Nat → Nat → Nat
  | [], m => m
  | b :: r, m => lcmL r (Nat.lcm m b)
theorem div_gcd_mul {m b : Nat} (hm : 0 < m) : m / Nat.gcd m b * b = Nat.lcm m b := by
  have hg : 0 < Nat.gcd m b := Nat.gcd_pos_of_pos_left b hm
  obtain ⟨k, hk⟩ := Nat.gcd_dvd_left m b
  have e1 : m / Nat.gcd m b = k := by
    conv => lhs; arg 1; rw [hk]
    exact Nat.mul_div_cancel_left k hg
  have e2 : Nat.lcm m b = k * b := by
    unfold Nat.lcm
    conv => lhs; arg 1; arg 1; rw [hk]
    rw [Nat.mul_assoc, Nat.mul_div_cancel_left _ hg]
  rw [e1, e2]
theorem lcmL_pos : ∀ {bs : List Nat} {m : Nat}, 0 < m → (∀ b ∈ bs, 0 < b) → 0 < lcmL bs m
  | [], _, h, _ => h
  | b :: r, m, h, hb => lcmL_pos (bs := r) (m := Nat.lcm m b) (Nat.lcm_pos h (hb b List.mem_cons_self)) fun c mc => hb c (List.mem_cons_of_mem _ mc)
theorem dvd_lcmL0 : ∀ {bs : List Nat} {m : Nat}, m ∣ lcmL bs m
  | [], _ => Nat.dvd_refl _
  | b :: r, m => Nat.dvd_trans (Nat.dvd_lcm_left m b) dvd_lcmL0
theorem dvd_lcmL : ∀ {bs : List Nat} {m b : Nat}, b ∈ bs → b ∣ lcmL bs m
  | c :: r, m, b, h => by
    rcases List.mem_cons.mp h with rfl | h
    · exact Nat.dvd_trans (Nat.dvd_lcm_right m b) dvd_lcmL0
    · exact dvd_lcmL (bs := r) (m := Nat.lcm m c) h
theorem lcmL_dvd : ∀ {bs : List Nat} {m k : Nat}, m ∣ k → (∀ b ∈ bs, b ∣ k) → lcmL bs m ∣ k
  | [], _, _, h, _ => h
  | b :: r, m, k, h, hb => lcmL_dvd (bs := r) (m := Nat.lcm m b) (Nat.lcm_dvd h (hb b List.mem_cons_self)) fun c mc => hb c (List.mem_cons_of_mem _ mc)
def primesL : List Nat := [2, 3, 5, 7, 11, 13, 17, 19, 23, 29, 31, 37, 41, 43, 47, 53, 59, 61]
theorem small_prime : ∀ g : Nat, g ≤ 64 → 2 ≤ g → ∃ p ∈ primesL, p ∣ g := by decide
/-- what none of the primes divides, and divides the common border, is 1 -/
theorem no_prime {f : Nat} (hf : ∀ p ∈ primesL, ¬ p ∣ f) : ∀ {bs : List Nat} {m : Nat}, (∀ b ∈ bs, 1 ≤ b ∧ b ≤ 64) → f ∣ lcmL bs m → f ∣ m
  | [], _, _, h => h
  | b :: r, m, hb, h => by
    have h1 := no_prime hf (bs := r) (m := Nat.lcm m b) (fun c mc => hb c (List.mem_cons_of_mem _ mc)) h
    have h2 : f ∣ m * b := Nat.dvd_trans h1 (Nat.lcm_dvd_mul m b)
    have hbb := hb b List.mem_cons_self
    have hc : Nat.Coprime f b := by
      have g1 : Nat.gcd f b ∣ b := Nat.gcd_dvd_right f b
      have g2 := Nat.le_of_dvd (by omega) g1
      rcases Nat.lt_or_ge (Nat.gcd f b) 2 with z | z
      · have : 0 < Nat.gcd f b := Nat.gcd_pos_of_pos_right f (by omega)
        show Nat.gcd f b = 1
        omega
      · obtain ⟨p, mp, dp⟩ := small_prime _ (by omega) z
        exact (hf p mp (Nat.dvd_trans dp (Nat.gcd_dvd_left f b))).elim
    exact hc.dvd_of_dvd_mul_right h2
theorem drop_prime {bs : List Nat} {p : Nat} (hb : ∀ b ∈ bs, 1 ≤ b) (hp : 2 ≤ p) (h : p ∣ lcmL bs 1) : ∃ b ∈ bs, lcmL bs 1 / p % b ≠ 0 := by
  have hl := lcmL_pos (bs := bs) (m := 1) (by decide) fun b m => hb b m
  obtain ⟨k, hk⟩ := h
  have e1 : lcmL bs 1 / p = k := by rw [hk]; exact Nat.mul_div_cancel_left k (by omega)
  rcases Classical.em (∃ b ∈ bs, k % b ≠ 0) with z | z
  · rw [e1]; exact z
  · have hd : lcmL bs 1 ∣ k := lcmL_dvd (Nat.one_dvd k) fun b m => by
      rcases Nat.eq_zero_or_pos (k % b) with w | w
      · exact Nat.dvd_of_mod_eq_zero w
      · exact (z ⟨b, m, by omega⟩).elim
    have hk0 : 0 < k := by
      rcases Nat.eq_zero_or_pos k with w | w
      · rw [w, Nat.mul_zero] at hk; omega
      · exact w
    have hle := Nat.le_of_dvd hk0 hd
    have : k * 2 ≤ p * k := by rw [Nat.mul_comm p k]; exact Nat.mul_le_mul_left k hp
    omega
theorem nat_mod {a b : Nat} : ((a : Int) % (b : Int)) = ((a % b : Nat) : Int) := by omega
theorem nat_div {a b : Nat} : ((a : Int) / (b : Int)) = ((a / b : Nat) : Int) := by omega
end FM
namespace FM
open PySem PySem.Spec L2 PyProof.Rows
/-! ### comprehensions with effects; max of a list -/
def lcW (f : QG) (e : M O) (vs : List Nat) : List PD → List PD → List O → (List PD → List O → Prop) → Prop
  | [], acc, ρ, Q => Q acc ρ
  | x :: xs, acc, ρ, Q => ∃ ρ1, f x ρ = some ρ1 ∧ wM (e ρ1) fun o ρ2 => ∃ d, o = .fz d ∧ acc.length < sizeLine ∧ lcW f e vs xs (acc ++ [d]) (wipeO ρ2 vs) Q
theorem lcW_go {f : QG} {e : M O} {vs : List Nat} {Q : List PD → List O → Prop} : ∀ {xs acc : List PD} {ρ : List O}, lcW f e vs xs acc ρ Q → ∃ ds ρ2, lcGoM f bYes e vs xs acc ρ = .ok ds ρ2 ∧ Q ds ρ2
  | [], acc, ρ, h => ⟨acc, ρ, rfl, h⟩
  | x :: xs, acc, ρ, h => by
    obtain ⟨ρ1, e1, h⟩ := h
    unfold lcGoM
    rw [e1]
    simp only [bYes]
    cases e2 : e ρ1 with
    | ok o ρ2 =>
      rw [e2] at h
      obtain ⟨d, rfl, h1, h2⟩ := h
      simp only [h1, if_true]
      exact lcW_go h2
    | _ => rw [e2] at h; exact h.elim
theorem wM_lcI {mi : M (List PD)} {f : QG} {e : M O} {vs : List Nat} {ρ : List O} {Q : O → List O → Prop} (h : wM (mi ρ) fun ds ρ1 => lcW f e vs ds [] (wipeO ρ1 vs) fun acc ρ2 => Q (.lst acc) ρ2) : wM (mLc mi f bYes e vs ρ) Q := by
  unfold mLc
  cases e1 : mi ρ with
  | ok ds ρ1 =>
    rw [e1] at h
    obtain ⟨acc, ρ2, e2, q⟩ := lcW_go h
    simp only [e2]
    exact q
  | _ => rw [e1] at h; exact h.elim
theorem maxI_cons {x : Int} : ∀ {r : List Int}, maxI (x :: r) = r.foldl max x
  | [] => rfl
  | y :: r => by
    show max x (maxI (y :: r)) = (y :: r).foldl max x
    rw [maxI_cons]
    rw [List.foldl_cons]
    have h : ∀ (r : List Int) (a b : Int), max a (r.foldl max b) = r.foldl max (max a b) := by
      intro r
      induction r with
      | nil => intro a b; rfl
      | cons z r ih =>
        intro a b
        rw [List.foldl_cons, List.foldl_cons, ih, Int.max_assoc]
    exact h r x y
theorem eqv_int {i j : Int} : PyData.eqv (.int i) (.int j) = decide (i = j) := by simp [PyData.eqv, beq_dec]
theorem oIn_ints {i : Int} {l : List Int} : oIn (.fz (.int i)) (.fz (.list (l.map .int))) = some (.fz (.bool (decide (i ∈ l)))) := by
  have e1 := shaped_ints l
  have e2 : SeqAt.shaped (PyData.int i) = true := by simp [SeqAt.shaped, PyData.canLay0, PyData.depth]
  have e3 : ((l.map PyData.int).any fun z => PyData.eqv z (.int i)) = decide (i ∈ l) := by
    rw [List.any_map, Bool.eq_iff_iff, List.any_eq_true]
    constructor
    · rintro ⟨j, mj, e⟩
      simp [eqv_int] at e
      rw [← e]
      simpa using mj
    · intro mi
      exact ⟨i, by simpa using mi, by simp [eqv_int]⟩
  have e4 : bIn (.fz (.int i)) (.fz (.list (l.map .int))) = some (decide (i ∈ l)) := by
    rw [← e3]
    show (if (SeqAt.shaped (PyData.int i) && SeqAt.shaped (PyData.list (l.map PyData.int))) = true then _ else _) = _
    rw [e1, e2]
    rfl
  unfold oIn
  rw [e4]
  rfl
def rngL (lo : Int) (n : Nat) : List Int := (List.range n).map fun i : Nat => lo + (i : Int)
theorem rngD_L {lo : Int} {n : Nat} : rngD lo n = (rngL lo n).map .int := by
  unfold rngD rngL
  rw [List.map_map]
  rfl
theorem rngL_mem {lo x : Int} {n : Nat} : x ∈ rngL lo n ↔ lo ≤ x ∧ x < lo + n := by
  unfold rngL
  rw [List.mem_map]
  constructor
  · rintro ⟨i, m, rfl⟩
    have := List.mem_range.mp m
    omega
  · rintro ⟨h1, h2⟩
    exact ⟨(x - lo).toNat, List.mem_range.mpr (by omega), by omega⟩
theorem qLrg2_i {a b : QE} {ρ : List O} {m n : Int} (h1 : -(2 ^ 62) ≤ m) (h2 : n < 2 ^ 62) (h3 : m ≤ n) (h4 : n - m ≤ 16777216) (ea : a ρ = some (.fz (.int m))) (eb : b ρ = some (.fz (.int n))) : qLrg2 a b ρ = some (.lst ((rngL m (n - m).toNat).map .int)) := by
  have b1 : big62 m = true := big62_of h1 (by omega)
  have b2 : big62 n = true := big62_of (by omega) h2
  have d : decide ((n - m).toNat ≤ 2 ^ 24) = true := decide_eq_true (by omega)
  unfold qLrg2
  rw [ea, eb]
  simp only [b1, b2, d, Bool.and_self, if_true]
  rw [rngD_L]
@[simp] theorem oMax1_l {l : List Int} (h : 0 < l.length) : oMax1 [.fz (.list (l.map .int))] = some (.fz (.int (maxI l))) := by
  have e : intsD (l.map PyData.int) = some l := intsD_map l
  cases l with
  | nil => cases h
  | cons x l => simp [oMax1, oInts, seqL, e]
def topD (d : Int) : List Int → Int
  | [] => d
  | n :: r => r.foldl max n
@[simp] theorem oMaxD_l {l : List Int} {d : Int} : oMaxD [.fz (.list (l.map .int))] [.fz (.int d)] = some (.fz (.int (topD d l))) := by
  have e : intsD (l.map PyData.int) = some l := intsD_map l
  show (match intsD (l.map PyData.int) with | some [] => some (O.fz (.int d)) | some (n :: r) => some (O.fz (.int (r.foldl max n))) | none => none) = _
  rw [e]
  cases l <;> rfl
end FM
namespace FM
open PySem PySem.Spec L2 PyProof.Rows
/-! ### list(range(..)) of what has effects; xs[::-1] -/
section
variable {k : Kc} {E : XK}
open Classical in
noncomputable def mLrg1 (m : M O) : M O := fun ρ => match m ρ with
  | .ok (.fz (.int n)) ρ1 => if 0 ≤ n ∧ n ≤ 16777216 then .ok (.lst (rngD 0 n.toNat)) ρ1 else .bad
  | .ok _ _ => .bad
  | .exc x ρ1 => .exc x ρ1
  | .bad => .bad
theorem tem_lrg1 {te : TE} {m : M O} (h : TEm k E te m) : TEm k E (tLstRg (tRg1 te)) (mLrg1 m) := by
  intro P e σ ρ vs os H Q s g
  refine h P e σ ρ vs os H _ s ?_
  unfold mLrg1 at g
  cases e1 : m ρ with
  | exc x ρ1 => rw [e1] at g; exact g
  | bad => rw [e1] at g; exact g
  | ok o ρ1 =>
    rw [e1] at g
    intro v H1 s1
    split at g
    · rename_i n ρ2 ee
      cases ee
      split at g
      · rename_i hz
        obtain ⟨F, S1, S2, s1⟩ := s1
        have ev := s1.top.1
        obtain ⟨_, s2⟩ := s1.top
        have hv : v = .int n := by
          cases ev with
          | int => rfl
          | dic _ _ e => cases e
          | dit _ _ e => cases e
        refine ⟨n, hv, ⟨by decide, by decide, by omega, by omega, by omega⟩, ?_⟩
        have r := reps_rg (K := k.K) (F := F) 0 n
        rw [Int.sub_zero] at r
        exact own_list s2.fr.fle r fun w F' H' T x ow fr => g w H' ⟨F', S1, T ++ S2, s2.push x ow fr⟩
      · exact g.elim
    · exact g.elim
    · rename_i hx; cases hx
    · rename_i hx; cases hx
def oRevL (x : O) : Option O := match seqL x with
  | some ds => some (.lst ds.reverse)
  | none => none
def qRevL (a : QE) : QE := fun ρ => match a ρ with
  | none => none
  | some x => oRevL x
theorem Reps.rev {K : Frag} {F : Hp} : ∀ {vs : List V} {ds : List PD}, Reps K F vs ds → Reps K F vs.reverse ds.reverse
  | _, _, .nil => .nil
  | v :: vs, d :: ds, .cons h r => by
    rw [List.reverse_cons, List.reverse_cons]
    exact Reps.append (Reps.rev r) (.cons h .nil)
theorem ten_revL {te : TE} {qa : QE} (ha : TEv k te qa) : TEn k (tRevL k.K te) (qRevL qa) := by
  intro F H σ ρ S o Q q e h
  unfold qRevL at e
  split at e
  · cases e
  · rename_i x e1
    refine ha F H σ ρ S x _ q e1 fun v F1 H1 x1 w1 => ?_
    unfold oRevL at e
    split at e
    · rename_i ds es
      cases e
      obtain ⟨a, vs, rfl, g1, g2⟩ := w1.seqL x1.fle es
      exact ⟨a, vs, rfl, g1, own_list x1.fle (Reps.rev g2) fun w F' H' T x ow fr => h w F' H' T (x1.trans x) ow (fr.back x1)⟩
    · cases e
@[simp] theorem qRevL_eq {a : QE} {ρ : List O} : qRevL a ρ = match a ρ with
    | none => none
    | some x => oRevL x := rfl
@[simp] theorem oRevL_l {ds : List PD} : oRevL (.fz (.list ds)) = some (.lst ds.reverse) := rfl
@[simp] theorem wM_lrg1 {m : M O} {ρ : List O} {Q : O → List O → Prop} : wM (mLrg1 m ρ) Q = wM (m ρ) fun o ρ1 => ∃ n : Int, o = .fz (.int n) ∧ 0 ≤ n ∧ n ≤ 16777216 ∧ Q (.lst (rngD 0 n.toNat)) ρ1 := by
  unfold mLrg1
  cases e : m ρ with
  | ok o ρ1 =>
    cases o with
    | fz d =>
      cases d with
      | int n =>
        by_cases c : 0 ≤ n ∧ n ≤ 16777216
        · simp [c]
        · simp [c, wM]
          intro h1 h2
          exact (c ⟨h1, h2⟩).elim
      | _ => simp [wM]
    | _ => simp [wM]
  | _ => rfl
end
end FM
namespace FM
open PySem PySem.Spec L2 PyProof.Rows
/-! ### a list's method called within a comprehension -/
section
variable {X : Cx} {K : Frag} {o e : Expr} {es : List Expr} {to : TE} {t : TA} {name : Str} {apos cpos : Pos} {T id : String} {r : V → List V → Hp → VK → Prop}
theorem pe_bmC (pa : PlainAttrs T) (slot : Slot T name id) (hty : typeOf (.builtin id) = pure (.type "method_descriptor")) (hm : MtR X id r) (ho : PE X o to) (ha : PA X (e :: es) t) (hK : X.K = K := by rfl)
    (hbase : attributeBase o name X.env (eval o X.env) = eval o X.env := by rfl)
    (hfew : ((backTo cpos (starEach (e :: es) X.env)).all (fun x => !x.1) && (backToKw cpos (keywordEach [] X.env)).all (fun x => x.1.isSome)
      && decide ((e :: es).length + ([] : List Keyword).length + (if ([] : List Keyword).isEmpty then 0 else 1) < 30)) = true := by rfl)
    (hline : (apos.endLine == cpos.line) = true := by rfl) (hs : starEach (e :: es) X.env = (false, eval e X.env) :: starEach es X.env := by rfl) (hplain : (backTo cpos (starEach es X.env)).any (·.1) = false := by rfl) :
    PE X (.Call (.Attribute o name apos) (e :: es) [] cpos) (tBM K T r to t) := by
  subst hK
  exact pe_bm pa slot hty hm ho ha hbase hfew hline hs hplain
end
end FM
namespace FM
open PySem PySem.Spec L2 PyProof.Rows
/-! ### list.count of ints -/
section
variable {k : Kc} {ta tb : TE} {qa qb : QE}
def oCnt (x y : O) : Option O := match seqL x, y with
  | some ds, .fz (.int i) => match intsD ds with
    | some ns => some (.fz (.int ((ns.count i : Nat) : Int)))
    | none => none
  | _, _ => none
theorem tev_cnt (ha : TEv k ta qa) (hb : TEv k tb qb) : TEv k (tBM k.K "list" (rCntI k.K) ta (tCons tb tNil)) (qOp oCnt qa qb) := by
  intro F H σ ρ S o Q q e h
  unfold qOp at e
  cases e1 : qa ρ with
  | none => rw [e1] at e; cases e
  | some x =>
    rw [e1] at e
    cases e2 : qb ρ with
    | none => simp only [e2] at e; cases e
    | some y =>
      simp only [e2] at e
      unfold oCnt at e
      split at e
      · rename_i ds i es
        split at e
        · rename_i ns en
          cases e
          refine ha F H σ ρ S x _ q e1 fun v F1 H1 x1 w1 => ?_
          obtain ⟨a, vs, rfl, g1, g2⟩ := w1.seqL x1.fle es
          refine ⟨.inl ⟨rfl, vs, g1⟩, ?_⟩
          refine hb F1 H1 σ ρ S _ _ (q.xt x1) e2 fun w F2 H2 x2 w2 => ?_
          obtain ⟨a2, vs2, ee, g3, g4⟩ := (w1.xt x2).seqL x2.fle es
          cases ee
          have hw : w = .int i := by
            have r := w2.rep
            cases r with
            | int => rfl
            | dic _ _ e => cases e
            | dit _ _ e => cases e
          subst hw
          have e3 := intsD_eq en
          subst e3
          rw [reps_ints g4] at g3
          exact ⟨a, ns, i, rfl, rfl, g3, h _ F2 H2 (x1.trans x2) (.fz (.int _))⟩
        · cases e
      · cases e
@[simp] theorem oCnt_l {l : List Int} {i : Int} : oCnt (.fz (.list (l.map .int))) (.fz (.int i)) = some (.fz (.int ((l.count i : Nat) : Int))) := by
  have e : intsD (l.map PyData.int) = some l := intsD_map l
  unfold oCnt
  show (match intsD (l.map PyData.int) with | some ns => some (O.fz (.int ((ns.count i : Nat) : Int))) | none => none) = _
  rw [e]
end
/-! ### what is told of a call is used at once -/
def frz1 (o : O) : O := if flatO o then match toPD o with
  | some d => .fz d
  | none => .dead
  else .dead
def frzA (ρ : List O) : List O := ρ.map frz1
@[simp] theorem frzA_nil : frzA [] = [] := rfl
@[simp] theorem frzA_cons {o : O} {ρ : List O} : frzA (o :: ρ) = frz1 o :: frzA ρ := rfl
@[simp] theorem frz1_fz {d : PD} : frz1 (.fz d) = .fz d := rfl
@[simp] theorem frz1_lst {ds : List PD} : frz1 (.lst ds) = .fz (.list ds) := rfl
def qTmp (q : QE) : QE := fun ρ => match q (frzA ρ) with
  | some (.fz d) => if imm d then some (.fz d) else none
  | _ => none
@[simp] theorem qTmp_eq {q : QE} {ρ : List O} : qTmp q ρ = match q (frzA ρ) with
  | some (.fz d) => if imm d then some (.fz d) else none
  | _ => none := rfl
theorem envs_flat {k : Kc} {F H : Hp} : ∀ {σ : L2.St} {ρ : List O} {S : List Addr}, Envs k F H σ ρ S → (∀ a ∈ S, F a = none) → ∃ T : List Addr, (∀ a ∈ T, a ∈ S) ∧ (∀ a ∈ T, ∀ vs, H a ≠ some (.tup vs)) ∧ (∀ U : List Addr, (∀ a ∈ T, a ∈ U) → (∀ a ∈ U, F a = none) → Envs k (over F H U) H σ (frzA ρ) [])
  | _, _, _, .nil, _ => ⟨[], (fun a m => by cases m), (fun a m => by cases m), fun _ _ _ => .nil⟩
  | _, _, _, .dead r, off => by
    obtain ⟨T, m, n, e⟩ := envs_flat r off
    exact ⟨T, m, n, fun U h1 h2 => .dead (e U h1 h2)⟩
  | _, _, _, .cons (o := o) w r, off => by
    obtain ⟨T2, m2, n2, e2⟩ := envs_flat r fun a z => off a (List.mem_append_right _ z)
    by_cases c : flatO o = true
    · cases q1 : toPD o with
      | none =>
        have e : frz1 o = .dead := by unfold frz1; rw [if_pos c, q1]
        refine ⟨T2, fun a z => List.mem_append_right _ (m2 a z), n2, fun U h1 h2 => ?_⟩
        rw [frzA_cons, e]
        exact .dead (e2 U h1 h2)
      | some d =>
        have e : frz1 o = .fz d := by unfold frz1; rw [if_pos c, q1]
        refine ⟨_ ++ T2, fun a z => (List.mem_append.mp z).elim (fun z => List.mem_append_left _ z) fun z => List.mem_append_right _ (m2 a z), fun a z => (List.mem_append.mp z).elim (Own.notup w c a) (n2 a), fun U h1 h2 => ?_⟩
        rw [frzA_cons, e]
        have rr := own_fz (T := U) (over_sub fun a z => h2 a z) (fun a u m r => over_rd m r) (fun a vs m r => by rw [over_in m]; exact r) (fun a z => h1 a (List.mem_append_left _ z)) w q1
        exact .cons (S := []) (T := []) (.fz rr) (e2 U (fun a z => h1 a (List.mem_append_right _ z)) h2)
    · have e : frz1 o = .dead := by unfold frz1; rw [if_neg c]
      refine ⟨T2, fun a z => List.mem_append_right _ (m2 a z), n2, fun U h1 h2 => ?_⟩
      rw [frzA_cons, e]
      exact .dead (e2 U h1 h2)
theorem tev_tmp {k : Kc} {te : TE} {q : QE} (h : TEv k te q) : TEv k te (qTmp q) := by
  intro F H σ ρ S o Q qst e g
  unfold qTmp at e
  split at e
  · rename_i d e1
    split at e
    · rename_i im
      cases e
      obtain ⟨T, mT, nT, rT⟩ := envs_flat qst.env qst.off
      have offT : ∀ a ∈ T, F a = none := fun a z => qst.off a (mT a z)
      refine h (over F H T) H σ (frzA ρ) [] _ _ ⟨over_le qst.fle, rT T (fun _ z => z) offT, fun a m => by cases m⟩ e1 fun v F' H' x w => ?_
      have r := w.rep
      let G : Hp := fun a => if a ∈ T then none else F' a
      have gout : ∀ {a : Addr}, a ∉ T → G a = F' a := fun n => if_neg n
      have hT : ∀ a ∈ T, ∃ u, H a = some u := fun a z => by
        cases w : H a with
        | none => exact absurd w (qst.env.there a (mT a z)).1
        | some u => exact ⟨u, rfl⟩
      refine g v G H' ⟨x.ex, fun a u z => ?_, fun a u z => ?_, fun a u z => ?_⟩ (.fz (r.imm (fun a vs z => ?_) im))
      · have n : a ∉ T := fun m => by rw [offT a m] at z; cases z
        rw [gout n]
        exact x.sub a u (by rw [over_out n]; exact z)
      · by_cases n : a ∈ T
        · have : G a = none := if_pos n
          rw [this] at z; cases z
        · rw [gout n] at z
          exact x.fle a u z
      · by_cases n : a ∈ T
        · have : G a = none := if_pos n
          rw [this] at z; cases z
        · rw [gout n] at z
          rcases x.fresh a u z with y | y
          · rw [over_out n] at y; exact .inl y
          · exact .inr y
      · have n : a ∉ T := fun m => by
          obtain ⟨u, hu⟩ := hT a m
          have := x.sub a u (by rw [over_in m]; exact hu)
          rw [z] at this
          cases this
          exact nT a m vs hu
        rw [gout n]
        exact z
    · cases e
  · cases e
end FM
namespace FM
open PySem PySem.Spec L2 PyProof.Rows
/-! ### dicts of one's own whose entries are one's own: taking an entry out, putting it back, storing -/
def setO : List (Key × O) → Key → O → List (Key × O)
  | [], _, _ => []
  | (y, o1) :: r, x, o => if y = x then (y, o) :: r else (y, o1) :: setO r x o
def putO (os : List (Key × O)) (x : Key) (o : O) : List (Key × O) := if (lk os x).isSome then setO os x o else os ++ [(x, o)]
theorem lk_pos {o : O} {y x : Key} {r : List (Key × O)} (e : y = x) : lk ((y, o) :: r) x = some o := by simp [lk, List.find?_cons, e]
theorem lk_neg {o : O} {y x : Key} {r : List (Key × O)} (e : ¬ y = x) : lk ((y, o) :: r) x = lk r x := by simp [lk, List.find?_cons, e]
theorem OwnK.keys {k : Kc} {F H : Hp} : ∀ {vs : List (Key × V)} {os : List (Key × O)} {S : List Addr}, OwnK k F H vs os S → vs.map (·.1) = os.map (·.1)
  | _, _, _, .nil => rfl
  | _, _, _, .cons _ r => congrArg (_ :: ·) (OwnK.keys r)
theorem OwnK.take {k : Kc} {F H : Hp} {x : Key} : ∀ {vs : List (Key × V)} {os : List (Key × O)} {S : List Addr} {o : O}, OwnK k F H vs os S → lk os x = some o → ∃ v T R, valV vs x = some v ∧ Own k F H v o T ∧ OwnK k F H vs (setO os x .dead) R ∧ (T ++ R).Perm S
  | _, _, _, _, .nil, e => by cases e
  | _, _, _, o, .cons (x := y) (v := v) (o := o1) (os := os) (S := S1) (T := S2) h r, e => by
    by_cases q : y = x
    · rw [lk_pos q] at e
      cases e
      refine ⟨v, S1, S2, valV_pos q, h, ?_, .refl _⟩
      unfold setO
      rw [if_pos q]
      exact .cons (S := []) .dead r
    · rw [lk_neg q] at e
      obtain ⟨v', T, R, h1, h2, h3, h4⟩ := OwnK.take r e
      refine ⟨v', T, S1 ++ R, by rw [valV_neg q]; exact h1, h2, ?_, ?_⟩
      · unfold setO
        rw [if_neg q]
        exact .cons h h3
      · have : (T ++ (S1 ++ R)).Perm (S1 ++ (T ++ R)) := by
          rw [← List.append_assoc, ← List.append_assoc]
          exact List.Perm.append_right R List.perm_append_comm
        exact this.trans (List.Perm.append_left S1 h4)
theorem OwnK.put {k : Kc} {F H : Hp} {x : Key} {v : V} {o : O} {T : List Addr} (w : Own k F H v o T) : ∀ {vs : List (Key × V)} {os : List (Key × O)} {S : List Addr}, OwnK k F H vs os S → valV vs x = some v → ∃ U, (∀ a, U.count a ≤ (T ++ S).count a) ∧ OwnK k F H vs (setO os x o) U
  | _, _, _, .nil, e => by cases e
  | _, _, _, .cons (x := y) (v := v1) (o := o1) (os := os) (S := S1) (T := S2) h r, e => by
    by_cases q : y = x
    · rw [valV_pos q] at e
      cases e
      refine ⟨T ++ S2, fun a => by simp only [List.count_append]; omega, ?_⟩
      unfold setO
      rw [if_pos q]
      exact .cons w r
    · rw [valV_neg q] at e
      obtain ⟨U, h1, h2⟩ := OwnK.put w r e
      refine ⟨S1 ++ U, fun a => by have := h1 a; simp only [List.count_append] at this ⊢; omega, ?_⟩
      unfold setO
      rw [if_neg q]
      exact .cons h h2
theorem map_noK {x : Key} {y : V} : ∀ {vs : List (Key × V)}, x ∉ vs.map (·.1) → vs.map (fun kv => if kv.1 = x then (kv.1, y) else kv) = vs
  | [], _ => rfl
  | (z, v) :: vs, h => by
    rw [List.map_cons, List.mem_cons, not_or] at h
    rw [List.map_cons, if_neg (fun e => h.1 e.symm), map_noK h.2]
theorem OwnK.store1 {k : Kc} {F H : Hp} {x : Key} {y : V} {o : O} {T : List Addr} (w : Own k F H y o T) : ∀ {vs : List (Key × V)} {os : List (Key × O)} {S : List Addr}, OwnK k F H vs os S → (os.map (·.1)).Nodup → x ∈ os.map (·.1) → ∃ U, (∀ a, U.count a ≤ (T ++ S).count a) ∧ OwnK k F H (vs.map fun kv => if kv.1 = x then (kv.1, y) else kv) (setO os x o) U
  | _, _, _, .nil, _, m => by cases m
  | _, _, _, .cons (x := z) (v := v1) (o := o1) (vs := vs) (os := os) (S := S1) (T := S2) h r, nd, m => by
    obtain ⟨n1, n2⟩ := List.nodup_cons.mp nd
    by_cases q : z = x
    · refine ⟨T ++ S2, fun a => by simp only [List.count_append]; omega, ?_⟩
      have hn : x ∉ vs.map (·.1) := by rw [OwnK.keys r, ← q]; exact n1
      rw [List.map_cons, if_pos q, map_noK hn]
      unfold setO
      rw [if_pos q]
      exact .cons w r
    · have m2 : x ∈ os.map (·.1) := by
        rcases List.mem_cons.mp m with e | e
        · exact (q e.symm).elim
        · exact e
      obtain ⟨U, h1, h2⟩ := OwnK.store1 w r n2 m2
      refine ⟨S1 ++ U, fun a => by have := h1 a; simp only [List.count_append] at this ⊢; omega, ?_⟩
      rw [List.map_cons, if_neg q]
      unfold setO
      rw [if_neg q]
      exact .cons h h2
theorem OwnK.snoc {k : Kc} {F H : Hp} {x : Key} {y : V} {o : O} {T : List Addr} (w : Own k F H y o T) : ∀ {vs : List (Key × V)} {os : List (Key × O)} {S : List Addr}, OwnK k F H vs os S → ∃ U, (∀ a, U.count a ≤ (T ++ S).count a) ∧ OwnK k F H (vs ++ [(x, y)]) (os ++ [(x, o)]) U
  | _, _, _, .nil => ⟨T ++ [], fun a => by simp, .cons w .nil⟩
  | _, _, _, .cons (S := S1) h r => by
    obtain ⟨U, h1, h2⟩ := OwnK.snoc w r
    exact ⟨S1 ++ U, fun a => by have := h1 a; simp only [List.count_append] at this ⊢; omega, .cons h h2⟩
theorem lk_mem {x : Key} : ∀ {os : List (Key × O)}, (lk os x).isSome = true ↔ x ∈ os.map (·.1)
  | [] => by simp [lk]
  | (y, o) :: r => by
    by_cases q : y = x
    · rw [lk_pos q]; simp [q]
    · rw [lk_neg q, lk_mem (os := r), List.map_cons, List.mem_cons]
      exact ⟨.inr, fun h => h.elim (fun e => (q e.symm).elim) id⟩
theorem OwnK.store {k : Kc} {F H : Hp} {x : Key} {y : V} {o : O} {T S : List Addr} {vs : List (Key × V)} {os : List (Key × O)} (w : Own k F H y o T) (h : OwnK k F H vs os S) (nd : (os.map (·.1)).Nodup) : ∃ U, (∀ a, U.count a ≤ (T ++ S).count a) ∧ OwnK k F H (putK vs x y) (putO os x o) U := by
  unfold putK putO
  have e : (vs.any fun kv => decide (kv.1 = x)) = (lk os x).isSome := by
    rw [Bool.eq_iff_iff, lk_mem, ← OwnK.keys h, List.any_eq_true]
    simp
  rw [e]
  split
  · rename_i c
    exact OwnK.store1 w h nd (lk_mem.mp c)
  · exact OwnK.snoc w h
theorem setO_pos {o1 o : O} {y x : Key} {r : List (Key × O)} (e : y = x) : setO ((y, o1) :: r) x o = (y, o) :: r := if_pos e
theorem setO_neg {o1 o : O} {y x : Key} {r : List (Key × O)} (e : ¬ y = x) : setO ((y, o1) :: r) x o = (y, o1) :: setO r x o := if_neg e
theorem setO_setO {x : Key} {o o' : O} : ∀ {kvs : List (Key × O)}, setO (setO kvs x o) x o' = setO kvs x o'
  | [] => rfl
  | (y, o1) :: r => by
    by_cases q : y = x
    · rw [setO_pos q, setO_pos q, setO_pos q]
    · rw [setO_neg q, setO_neg q, setO_neg q, setO_setO]
/-! ### an entry of a slot -/
section
variable {k : Kc} {E : XK}
/-- the entry's list: where it stands, and what may be written there -/
theorem StW.entAt {P : List (Nat × V)} {e : Ent} {σ : L2.St} {ρ : List O} {vs : List V} {os : List O} {F H : Hp} {S1 S2 : List Addr} {i : Nat} {x : Key} {kvs : List (Key × O)} {ds : List PD} (s : StW k P e σ ρ vs os F H S1 S2) (e0 : qVar i ρ = some (.ndc kvs)) (e1 : lk kvs x = some (.lst ds)) :
    ∃ d a es ws, σ[i]? = some (some (.ref d)) ∧ H d = some (.dK es) ∧ valV es x = some (.ref a) ∧ H a = some (.lst ws) ∧ Reps k.K F ws ds ∧ ∀ ws' ds', Reps k.K F ws' ds' → ∃ U, StW k P e σ (ρ.set i (.ndc (setO kvs x (.lst ds')))) vs os F (upd H a (.lst ws')) U S2 := by
  obtain ⟨env, tmp, fr, pin⟩ := s
  obtain ⟨g1, g2⟩ := qVar_some e0
  obtain ⟨v, T, R, a1, a2, a3, a4⟩ := env.take g1 g2
  cases a2 with
  | @ndc d es _ T2 hd hk =>
    obtain ⟨v, T3, R3, k1, k2, k3, k4⟩ := hk.take e1
    cases k2 with
    | @lst a ws _ h r =>
      have fr' : Fr e F H (a :: d :: (R3 ++ (R ++ S2))) := Sbp.fr fr (.of_count fun b => by
        have c2 := a4.count_eq b
        have c3 := k4.count_eq b
        simp only [List.count_append, List.count_cons, List.count_nil] at c2 c3 ⊢
        omega)
      have ha : H a = some (.lst ws) := by
        rcases h with h | ⟨ob, h⟩
        · exact h
        · exact (fr'.nofz a List.mem_cons_self ob _ h).elim
      have hdd : H d = some (.dK es) := by
        rcases hd with h | ⟨ob, h⟩
        · exact h
        · exact (fr'.nofz d (List.mem_cons_of_mem _ List.mem_cons_self) ob _ h).elim
      refine ⟨d, a, es, ws, a1, hdd, k1, ha, r, fun ws' ds' r' => ?_⟩
      have nd := List.nodup_cons.mp fr'.nd
      have at_ : ∀ U : List Addr, (∀ b ∈ U, b ∈ d :: (R3 ++ (R ++ S2))) → At U H (upd H a (.lst ws')) := fun U m b mb u z => by
        rw [upd_ne (fun q => nd.1 (by rw [← q]; exact m b mb))]
        exact z
      have fw := fr'.write (a := a) (o := .lst ws') List.mem_cons_self (fun _ _ z => by cases z)
      have env3 := a3.mono (Same.refl F) (at_ R fun b m => List.mem_cons_of_mem _ (List.mem_append_right _ (List.mem_append_left _ m)))
      have tmp3 := tmp.mono (Same.refl F) (at_ S2 fun b m => List.mem_cons_of_mem _ (List.mem_append_right _ (List.mem_append_right _ m)))
      have hk3 := k3.mono (Same.refl F) (at_ R3 fun b m => List.mem_cons_of_mem _ (List.mem_append_left _ m))
      have hne : d ≠ a := fun q => nd.1 (by rw [← q]; exact List.mem_cons_self)
      obtain ⟨U3, m3, q3⟩ := hk3.put (x := x) (Own.lst (k := k) (F := F) (.inl upd_same) r') k1
      rw [setO_setO] at q3
      obtain ⟨U, mU, q⟩ := env3.put (i := i) a1 (Own.ndc (k := k) (F := F) (.inl (by rw [upd_ne hne]; exact hdd)) q3)
      rw [List.set_set] at q
      exact ⟨U, q, tmp3, Sbp.fr fw (.of_count fun b => by
        have h1 := mU.count b
        have h2 := m3 b
        simp only [List.count_append, List.count_cons, List.count_nil] at h1 h2 ⊢
        omega), pin⟩
end
end FM
namespace FM
open PySem PySem.Spec L2 PyProof.Rows
/-! ### a list's method on an entry of one's own dict; storing into such a dict -/
section
variable {k : Kc} {E : XK}
theorem ix_ent {K : Frag} {H : Hp} {d : Addr} {es : List (Key × V)} {z : Str} {v : V} {Q : VK} (hd : H d = some (.dK es)) (hv : valV es (.inr z) = some v) (q : Q v H) : rIxU K (.ref d) (.str z) H Q :=
  .inr ⟨_, v, rfl, .inl ⟨_, .inr z, .inl hd, rfl, hv.symm⟩, q⟩
def mMtE (i : Nat) (z : Str) (f : List PD → List PD → Option (PD × List PD)) (qs : List O → Option (List O)) : M O := fun ρ => match qVar i ρ with
  | some (.ndc kvs) => match lk kvs (.inr z) with
    | some (.lst ds) => match qs ρ with
      | some xs => match fzs xs with
        | some zs => match f ds zs with
          | some r => .ok (.fz r.1) (ρ.set i (.ndc (setO kvs (.inr z) (.lst r.2))))
          | none => .bad
        | none => .bad
      | none => .bad
    | _ => .bad
  | _ => .bad
theorem tem_mtE {i : Nat} {z : Str} {r : V → List V → Hp → VK → Prop} {f : List PD → List PD → Option (PD × List PD)} {ta : TA} {qs : List O → Option (List O)} (h : TAv k ta qs) (hr : LstM k r f) : TEm k E (tBM k.K "list" r (tOp (rIxU k.K) (tVar i) (tC (.str z))) ta) (mMtE i z f qs) := by
  intro P e σ ρ vs os H Q s g
  unfold mMtE at g
  split at g
  · rename_i kvs e0
    split at g
    · rename_i ds e1
      split at g
      · rename_i xs e2
        split at g
        · rename_i zs e3
          cases e4 : f ds zs with
          | none => rw [e4] at g; exact g.elim
          | some rr =>
            rw [e4] at g
            obtain ⟨F, S1, S2, s⟩ := s
            obtain ⟨d, a, es, ws, a1, a2, a3, a4, a5, a6⟩ := s.entAt e0 e1
            refine ⟨.ref d, a1, ix_ent a2 a3 ⟨.inl ⟨rfl, ws, .inl (.inl a4)⟩, h F H σ ρ S1 xs _ s.qs e2 fun us F1 H1 x1 w1 => ?_⟩⟩
            have s2 := s.xt x1
            obtain ⟨d', a', es', ws2, b1, b2, b3, b4, b5, b6⟩ := s2.entAt e0 e1
            rw [a1] at b1
            cases b1
            have hd : H1 d = some (.dK es) := x1.ex _ _ a2
            rw [hd] at b2
            cases b2
            rw [a3] at b3
            cases b3
            have ru := w1.fzs e3
            refine hr F1 H1 a ws2 ds us zs rr.1 rr.2 Q s2.fr.fle b4 b5 ru e4 fun v vs' rv rd => ?_
            obtain ⟨U, s5⟩ := b6 vs' rr.2 rv
            exact g v _ ⟨F1, U, [] ++ S2, s5.env, .cons (.fz rd) s5.tmp, s5.fr, s5.pin⟩
        · exact g.elim
      · exact g.elim
    · exact g.elim
  · exact g.elim
/-- storing what stands on top into an entry -/
theorem StW.entPut {P : List (Nat × V)} {e : Ent} {σ : L2.St} {ρ : List O} {v : V} {o : O} {vs : List V} {os : List O} {F H : Hp} {S1 S2 : List Addr} {i : Nat} {x : Key} {kvs : List (Key × O)} (s : StW k P e σ ρ (v :: vs) (o :: os) F H S1 S2) (e0 : qVar i ρ = some (.ndc kvs)) (nd0 : (kvs.map (·.1)).Nodup) :
    ∃ d es, σ[i]? = some (some (.ref d)) ∧ H d = some (.dK es) ∧ es.length = kvs.length ∧ ∃ U S3, StW k P e σ (ρ.set i (.ndc (putO kvs x o))) vs os F (upd H d (.dK (putK es x v))) U S3 := by
  obtain ⟨env, tmp, fr, pin⟩ := s
  obtain ⟨g1, g2⟩ := qVar_some e0
  obtain ⟨w, T, R, a1, a2, a3, a4⟩ := env.take g1 g2
  cases tmp with
  | @cons _ _ _ _ Tv S3 hv tmp =>
    cases a2 with
    | @ndc d es _ T2 hd hk =>
      have fr' : Fr e F H (d :: (T2 ++ (Tv ++ (R ++ S3)))) := Sbp.fr fr (.of_count fun b => by
        have c2 := a4.count_eq b
        simp only [List.count_append, List.count_cons, List.count_nil] at c2 ⊢
        omega)
      have hdd : H d = some (.dK es) := by
        rcases hd with h | ⟨ob, h⟩
        · exact h
        · exact (fr'.nofz d List.mem_cons_self ob _ h).elim
      have nd := List.nodup_cons.mp fr'.nd
      have at_ : ∀ U : List Addr, (∀ b ∈ U, b ∈ T2 ++ (Tv ++ (R ++ S3))) → At U H (upd H d (.dK (putK es x v))) := fun U m b mb u z => by
        rw [upd_ne (fun q => nd.1 (by rw [← q]; exact m b mb))]
        exact z
      have fw := fr'.write (a := d) (o := .dK (putK es x v)) List.mem_cons_self (fun _ _ z => by cases z)
      have env3 := a3.mono (Same.refl F) (at_ R fun b m => List.mem_append_right _ (List.mem_append_right _ (List.mem_append_left _ m)))
      have tmp3 := tmp.mono (Same.refl F) (at_ S3 fun b m => List.mem_append_right _ (List.mem_append_right _ (List.mem_append_right _ m)))
      have hk3 := hk.mono (Same.refl F) (at_ T2 fun b m => List.mem_append_left _ m)
      have hv3 := hv.mono (Same.refl F) (at_ Tv fun b m => List.mem_append_right _ (List.mem_append_left _ m))
      obtain ⟨U3, m3, q3⟩ := OwnK.store (x := x) hv3 hk3 nd0
      have el : es.length = kvs.length := by
        have := congrArg List.length hk.keys
        simpa using this
      obtain ⟨U, mU, q⟩ := env3.put (i := i) a1 (Own.ndc (k := k) (F := F) (.inl upd_same) q3)
      rw [List.set_set] at q
      exact ⟨d, es, a1, hdd, el, U, S3, q, tmp3, Sbp.fr fw (.of_count fun b => by
        have h1 := mU.count b
        have h2 := m3 b
        simp only [List.count_append, List.count_cons, List.count_nil] at h1 h2 ⊢
        omega), pin⟩
open Classical in
noncomputable def sSetE (i : Nat) (z : Str) (m : M O) : MS := fun ρ => match m ρ with
  | .ok o ρ1 => match qVar i ρ1 with
    | some (.ndc kvs) => if (kvs.map (·.1)).Nodup ∧ kvs.length < sizeLine then .next (ρ1.set i (.ndc (putO kvs (.inr z) o))) else .bad
    | _ => .bad
  | .exc x ρ1 => .exc x ρ1
  | .bad => .bad
theorem tsm_setE {s : Nat} {z : Str} {te : TE} {m : M O} (h : TEm k E te m) : TSm k E [] (tAsg te (gSub (tVar s) (tC (.str z)) rSetU)) (sSetE s z m) := by
  intro P e σ ρ vs os H D o st g
  refine h P e σ ρ vs os H _ st ?_
  unfold sSetE at g
  cases e1 : m ρ with
  | exc x ρ1 => rw [e1] at g; exact g.exc
  | bad => rw [e1] at g; exact g
  | ok w ρ1 =>
    rw [e1] at g
    intro v H1 s1
    simp only at g
    obtain ⟨F, S1, S2, s1⟩ := s1
    split at g
    · rename_i kvs e2
      split at g
      · rename_i hz
        obtain ⟨d, es, a1, a2, a3, U, S3, s5⟩ := s1.entPut (x := .inr z) e2 hz.1
        refine ⟨.ref d, a1, .inr ⟨d, _, rfl, DPut.k (k := .inr z) a2 (by rw [a3]; exact hz.2), ?_⟩⟩
        exact g σ _ ⟨F, U, S3, s5⟩
      · exact g.elim
    · exact g.elim
end
end FM
namespace FM
open PySem PySem.Spec L2 PyProof.Rows
/-! ### a dict's display, entries of any kind under texts -/
section
variable {k : Kc} {E : XK}
def kvZ (zs : List Str) (ys : List V) : List (Key × V) := List.zipWith (fun z y => (.inr z, y)) zs ys
def koZ (zs : List Str) (ys : List O) : List (Key × O) := List.zipWith (fun z y => (.inr z, y)) zs ys
def Dsp (trs : List (TE × TE)) (zs : List Str) (tl : TA) : Prop := ∀ (σ : L2.St) (H : Hp) (R : List (V × V) → Hp → Prop), tPairs trs σ H R = tl σ H fun ys H' => R ((kvZ zs ys).map fun kv => (kV kv.1, kv.2)) H'
theorem dsp_nil : Dsp [] [] tNil := fun σ H R => rfl
theorem dsp_cons {z : Str} {te : TE} {trs : List (TE × TE)} {zs : List Str} {tl : TA} (h : Dsp trs zs tl) : Dsp ((tC (.str z), te) :: trs) (z :: zs) (tCons te tl) := fun σ H R => by
  show te σ H (fun y H2 => tPairs trs σ H2 fun ps H3 => R ((.str z, y) :: ps) H3) = te σ H fun x H1 => tl σ H1 fun xs H2 => R ((kvZ (z :: zs) (x :: xs)).map fun kv => (kV kv.1, kv.2)) H2
  congr 1
  funext y H2
  rw [h σ H2]
  rfl
theorem Owns.cut : ∀ {ws vs : List V} {xs os : List O} {F H : Hp} {S : List Addr}, Owns k F H (ws ++ vs) (xs ++ os) S → ws.length = xs.length → ∃ A B, Owns k F H ws xs A ∧ Owns k F H vs os B ∧ S = A ++ B
  | [], vs, [], os, _, _, S, h, _ => ⟨[], S, .nil, h, rfl⟩
  | w :: ws, vs, x :: xs, os, _, _, _, .cons (S := S1) h r, hl => by
    obtain ⟨A, B, h1, h2, e⟩ := Owns.cut (ws := ws) (xs := xs) r (by simpa using hl)
    exact ⟨S1 ++ A, B, .cons h h1, h2, by rw [e, List.append_assoc]⟩
  | [], _, _ :: _, _, _, _, _, _, hl => by cases hl
  | _ :: _, _, [], _, _, _, _, _, hl => by cases hl
theorem OwnK.zip {F H : Hp} : ∀ {zs : List Str} {ws : List V} {xs : List O} {A : List Addr}, Owns k F H ws xs A → zs.length = xs.length → OwnK k F H (kvZ zs ws) (koZ zs xs) A
  | [], _, _, _, .nil, _ => .nil
  | z :: zs, _, _, _, .cons h r, hl => .cons h (OwnK.zip r (by simpa using hl))
  | [], _, _, _, .cons _ _, hl => by cases hl
  | _ :: _, _, _, _, .nil, hl => by cases hl
theorem putK_new {kvs : List (Key × V)} {x : Key} {v : V} (h : x ∉ kvs.map (·.1)) : putK kvs x v = kvs ++ [(x, v)] := by
  unfold putK
  have e : (kvs.any fun kv => decide (kv.1 = x)) = false := by
    rw [List.any_eq_false]
    intro p m c
    exact h (List.mem_map.mpr ⟨p, m, by simpa using c⟩)
  rw [e]
  rfl
theorem mergeK_new : ∀ {more kvs : List (Key × V)}, ((kvs ++ more).map (·.1)).Nodup → mergeK kvs more = kvs ++ more
  | [], kvs, _ => (List.append_nil kvs).symm
  | (x, v) :: more, kvs, h => by
    show mergeK (putK kvs x v) more = _
    have hx : x ∉ kvs.map (·.1) := fun m => by
      rw [List.map_append, List.nodup_append] at h
      exact h.2.2 x m x (by simp) rfl
    rw [putK_new hx, mergeK_new (by rw [List.append_assoc]; exact h), List.append_assoc]
    rfl
theorem kvZ_keys : ∀ {zs : List Str} {ws : List V}, ws.length = zs.length → (kvZ zs ws).map (·.1) = zs.map fun z => (.inr z : Key)
  | [], [], _ => rfl
  | z :: zs, w :: ws, h => congrArg (_ :: ·) (kvZ_keys (by simpa using h))
  | [], _ :: _, h => by cases h
  | _ :: _, [], h => by cases h
theorem keys_nodup : ∀ {zs : List Str}, zs.Nodup → (zs.map fun z => (.inr z : Key)).Nodup
  | [], _ => List.nodup_nil
  | z :: zs, h => by
    obtain ⟨h1, h2⟩ := List.nodup_cons.mp h
    refine List.nodup_cons.mpr ⟨fun m => ?_, keys_nodup h2⟩
    obtain ⟨y, my, e⟩ := List.mem_map.mp m
    cases e
    exact h1 my
def mDisp (zs : List Str) (ml : M (List O)) : M O := fun ρ => match ml ρ with
  | .ok xs ρ1 => if zs.length = xs.length then .ok (.ndc (koZ zs xs)) ρ1 else .bad
  | _ => .bad
theorem tem_disp {trs : List (TE × TE)} {zs : List Str} {tl : TA} {as : List (Option Nat)} {ml : M (List O)} (hd : Dsp trs zs tl) (hz : zs.Nodup) (h15 : zs.length ≤ 15) (h : TAm k E tl as ml) : TEm k E (tDisp trs) (mDisp zs ml) := by
  intro P e σ ρ vs os H Q s g p hp
  rw [hd σ]
  obtain ⟨F, S1, S2, s⟩ := s
  have sp : St k P e σ ρ (.ref p :: vs) (.ndc [] :: os) (upd H p (.dK [])) := s.pushN hp (fun _ _ z => by cases z) (.ndc (.inl upd_same) .nil)
  refine h P e σ ρ (.ref p :: vs) (.ndc [] :: os) _ _ sp ?_
  unfold mDisp at g
  cases e1 : ml ρ with
  | exc x ρ1 => rw [e1] at g; exact g.elim
  | bad => rw [e1] at g; exact g.elim
  | ok xs ρ1 =>
    rw [e1] at g
    intro ws H1 s1 hl _
    simp only at g
    split at g
    · rename_i hlen
      obtain ⟨F1, T1, T2, env, tmp, fr, pin⟩ := s1
      obtain ⟨A, B, ha, hb, rfl⟩ := tmp.cut hl
      cases hb with
      | @cons _ _ _ _ Tp B2 hpo hb =>
        cases hpo with
        | @ndc _ es _ T0 hdp hk =>
          cases hk
          have fr' : Fr e F1 H1 (p :: (T1 ++ (A ++ B2))) := Sbp.fr fr (.of_count fun b => by
            simp only [List.count_append, List.count_cons, List.count_nil]
            omega)
          have hpp : H1 p = some (.dK []) := by
            rcases hdp with h | ⟨ob, h⟩
            · exact h
            · exact (fr'.nofz p List.mem_cons_self ob _ h).elim
          have nd := List.nodup_cons.mp fr'.nd
          have hwl : ws.length = zs.length := by rw [hl, hlen]
          have hkey : ((([] : List (Key × V)) ++ kvZ zs ws).map (·.1)).Nodup := by
            rw [List.nil_append, kvZ_keys hwl]
            exact keys_nodup hz
          have em : mergeK [] (kvZ zs ws) = kvZ zs ws := mergeK_new hkey
          have hkl : (kvZ zs ws).length ≤ 15 := by
            unfold kvZ
            rw [List.length_zipWith]
            omega
          refine ⟨hpp, kvZ zs ws, rfl, hkl, ?_⟩
          rw [em]
          have at_ : ∀ U : List Addr, (∀ b ∈ U, b ∈ T1 ++ (A ++ B2)) → At U H1 (upd H1 p (.dK (kvZ zs ws))) := fun U m b mb u z => by
            rw [upd_ne (fun q => nd.1 (by rw [← q]; exact m b mb))]
            exact z
          have fw := fr'.write (a := p) (o := .dK (kvZ zs ws)) List.mem_cons_self (fun _ _ z => by cases z)
          have env3 := env.mono (Same.refl F1) (at_ T1 fun b m => List.mem_append_left _ m)
          have ha3 := ha.mono (Same.refl F1) (at_ A fun b m => List.mem_append_right _ (List.mem_append_left _ m))
          have hb3 := hb.mono (Same.refl F1) (at_ B2 fun b m => List.mem_append_right _ (List.mem_append_right _ m))
          have hk3 := OwnK.zip (zs := zs) ha3 hlen
          exact g (.ref p) _ ⟨F1, T1, (p :: A) ++ B2, env3, .cons (.ndc (.inl upd_same) hk3) hb3, Sbp.fr fw (.of_count fun b => by
            simp only [List.count_append, List.count_cons, List.count_nil]
            omega), pin⟩
    · exact g.elim
end
end FM
namespace FM
open PySem PySem.Spec L2 PyProof.Rows
/-! ### targets that take what is one's own: names, entries of one's own dict, pairs of these -/
section
variable {k : Kc} {E : XK}
abbrev QT := O → List O → Option (List O)
def TGm (k : Kc) (g : TG) (f : QT) (J : List Nat) : Prop := ∀ (P : List (Nat × V)) (e : Ent) (σ : L2.St) (ρ ρ' : List O) (v : V) (o : O) (vs : List V) (os : List O) (H : Hp) (Q : L2.St → Hp → Prop), Off P J → St k P e σ ρ (v :: vs) (o :: os) H → f o ρ = some ρ' →
  (∀ σ' H', St k P e σ' ρ' vs os H' → Q σ' H') → g v σ H Q
def TGsm (k : Kc) (g : TGs) (f : List O → List O → Option (List O)) (J : List Nat) : Prop := ∀ (P : List (Nat × V)) (e : Ent) (σ : L2.St) (ρ ρ' : List O) (ws : List V) (xs : List O) (vs : List V) (os : List O) (H : Hp) (Q : L2.St → Hp → Prop), Off P J → ws.length = xs.length → St k P e σ ρ (ws ++ vs) (xs ++ os) H → f xs ρ = some ρ' →
  (∀ σ' H', St k P e σ' ρ' vs os H' → Q σ' H') → g ws σ H Q
def tName (i : Nat) : QT := fun o ρ => some (ρ.set i o)
theorem tgm_name {i : Nat} : TGm k (gName i) (tName i) [i] := by
  intro P e σ ρ ρ' v o vs os H Q hj s ef h
  cases ef
  exact h _ _ (s.store hj)
open Classical in
noncomputable def tEnt (i : Nat) (z : Str) : QT := fun o ρ => match qVar i ρ with
  | some (.ndc kvs) => if (kvs.map (·.1)).Nodup ∧ kvs.length < sizeLine then some (ρ.set i (.ndc (putO kvs (.inr z) o))) else none
  | _ => none
theorem tgm_ent {s : Nat} {z : Str} : TGm k (gSub (tVar s) (tC (.str z)) rSetU) (tEnt s z) [] := by
  intro P e σ ρ ρ' v o vs os H Q hj st ef h
  unfold tEnt at ef
  obtain ⟨F, S1, S2, s1⟩ := st
  split at ef
  · rename_i kvs e2
    split at ef
    · rename_i hz
      cases ef
      obtain ⟨d, es, a1, a2, a3, U, S3, s5⟩ := s1.entPut (x := .inr z) e2 hz.1
      refine ⟨.ref d, a1, .inr ⟨d, _, rfl, DPut.k (k := .inr z) a2 (by rw [a3]; exact hz.2), ?_⟩⟩
      exact h σ _ ⟨F, U, S3, s5⟩
    · cases ef
  · cases ef
def tNil2 : List O → List O → Option (List O) := fun xs ρ => match xs with
  | [] => some ρ
  | _ => none
def tCons2 (f : QT) (g : List O → List O → Option (List O)) : List O → List O → Option (List O) := fun xs ρ => match xs with
  | o :: r => match f o ρ with
    | some ρ1 => g r ρ1
    | none => none
  | [] => none
theorem tgsm_nil : TGsm k gNil tNil2 [] := by
  intro P e σ ρ ρ' ws xs vs os H Q hj hl s ef h
  cases xs with
  | nil =>
    cases ws with
    | nil => cases ef; exact ⟨rfl, h _ _ s⟩
    | cons => cases hl
  | cons => cases ef
theorem tgsm_cons {t : TG} {u : TGs} {f : QT} {g : List O → List O → Option (List O)} {J L : List Nat} (h1 : TGm k t f J) (h2 : TGsm k u g L) : TGsm k (gCons t u) (tCons2 f g) (J ++ L) := by
  intro P e σ ρ ρ' ws xs vs os H Q hj hl s ef h
  cases xs with
  | nil => cases ef
  | cons o r =>
    cases ws with
    | nil => cases hl
    | cons w ws =>
      unfold tCons2 at ef
      simp only at ef
      cases e1 : f o ρ with
      | none => rw [e1] at ef; cases ef
      | some ρ1 =>
        rw [e1] at ef
        exact ⟨w, ws, rfl, h1 P e σ ρ ρ1 w o _ _ H _ hj.l s e1 fun σ' H' s2 => h2 P e σ' ρ1 ρ' ws r vs os H' Q hj.r (by simpa using hl) s2 ef h⟩
def tTup (n : Nat) (g : List O → List O → Option (List O)) : QT := fun o ρ => match o with
  | .fz (.tuple ds) => if ds.length = n then g (ds.map .fz) ρ else none
  | .ntp os => if os.length = n then g os ρ else none
  | _ => none
theorem owns_reps {F H : Hp} : ∀ {vs : List V} {ds : List PD}, Reps k.K F vs ds → Owns k F H vs (ds.map .fz) []
  | _, _, .nil => .nil
  | _, _, .cons h r => .cons (S := []) (T := []) (.fz h) (owns_reps r)
theorem Owns.len {F H : Hp} : ∀ {vs : List V} {os : List O} {S : List Addr}, Owns k F H vs os S → vs.length = os.length
  | _, _, _, .nil => rfl
  | _, _, _, .cons _ r => congrArg (· + 1) (Owns.len r)
theorem tgm_tup {gs : TGs} {g : List O → List O → Option (List O)} {J : List Nat} {n : Nat} (h1 : TGsm k gs g J) : TGm k (gTup k.K n gs) (tTup n g) J := by
  intro P e σ ρ ρ' v o vs os H Q hj s ef h
  obtain ⟨F, S1, S2, env, tmp, fr, pin⟩ := s
  unfold tTup at ef
  split at ef
  · rename_i ds
    split at ef
    · rename_i hn
      cases tmp with
      | @cons _ _ _ _ T S3 w r =>
        cases w with
        | fz w =>
          cases w with
          | @tup a ws _ a1 a2 =>
            refine ⟨a, ws, rfl, SqT.of (tup_le fr.fle a1), by rw [a2.length]; exact hn, h1 P e σ ρ ρ' ws (ds.map .fz) vs os H Q hj (by rw [a2.length, List.length_map]) ?_ ef h⟩
            obtain ⟨S, eS, hS⟩ := Owns.join (owns_reps (H := H) a2) r
            exact ⟨F, S1, S, env, hS, by rw [eS]; exact fr, pin⟩
          | dic _ _ e => cases e
          | dit _ _ e => cases e
    · cases ef
  · rename_i xs
    split at ef
    · rename_i hn
      cases tmp with
      | @cons _ _ _ _ T S3 w r =>
        cases w with
        | @ntp a ws _ T2 a1 ag2 a2 =>
          refine ⟨a, ws, rfl, SqT.of a1, by rw [a2.len]; exact hn, h1 P e σ ρ ρ' ws xs vs os H Q hj a2.len ?_ ef h⟩
          obtain ⟨S, eS, hS⟩ := Owns.join a2 r
          refine ⟨F, S1, S, env, hS, ?_, pin⟩
          rw [eS]
          refine Sbp.fr fr (.of_count fun b => ?_)
          simp only [List.count_append, List.count_cons]
          omega
    · cases ef
  · cases ef
def sAsgM (f : QT) (m : M O) : MS := fun ρ => match m ρ with
  | .ok o ρ1 => match f o ρ1 with
    | some ρ2 => .next ρ2
    | none => .bad
  | .exc x ρ1 => .exc x ρ1
  | .bad => .bad
theorem tsm_asgM {g : TG} {f : QT} {J : List Nat} {te : TE} {m : M O} (hg : TGm k g f J) (h : TEm k E te m) : TSm k E J (tAsg te g) (sAsgM f m) := by
  intro P e σ ρ vs os H D o s g'
  refine h P e σ ρ vs os H _ s ?_
  unfold sAsgM at g'
  cases e1 : m ρ with
  | exc x ρ1 => rw [e1] at g'; exact g'.exc
  | bad => rw [e1] at g'; exact g'
  | ok x ρ1 =>
    rw [e1] at g'
    intro v H1 s1
    simp only at g'
    cases e2 : f x ρ1 with
    | none => rw [e2] at g'; exact g'.elim
    | some ρ2 =>
      rw [e2] at g'
      exact hg P e σ ρ1 ρ2 v x vs os H1 _ o s1 e2 fun σ' H' s2 => g' σ' H' s2
end
end FM
namespace FM
open PySem PySem.Spec L2 PyProof.Rows
/-! ### moving an entry out of one's own dict; words -/
section
variable {k : Kc} {E : XK}
def mMoveE (i : Nat) (z : Str) : M O := fun ρ => match qVar i ρ with
  | some (.ndc kvs) => match lk kvs (.inr z) with
    | some o => .ok o (ρ.set i (.ndc (setO kvs (.inr z) .dead)))
    | none => .bad
  | _ => .bad
theorem tem_moveE {i : Nat} {z : Str} : TEm k E (tOp (rIxU k.K) (tVar i) (tC (.str z))) (mMoveE i z) := by
  intro P e σ ρ vs os H Q s g
  unfold mMoveE at g
  split at g
  · rename_i kvs e0
    split at g
    · rename_i o e1
      obtain ⟨F, S1, S2, env, tmp, fr, pin⟩ := s
      obtain ⟨g1, g2⟩ := qVar_some e0
      obtain ⟨w, T, R, a1, a2, a3, a4⟩ := env.take g1 g2
      cases a2 with
      | @ndc d es _ T2 hd hk =>
        obtain ⟨v, T3, R3, k1, k2, k3, k4⟩ := hk.take e1
        refine ⟨.ref d, a1, .inr ⟨_, v, rfl, .inl ⟨_, .inr z, hd, rfl, k1.symm⟩, ?_⟩⟩
        obtain ⟨U, mU, q⟩ := a3.put (i := i) a1 (Own.ndc (k := k) (F := F) hd k3)
        rw [List.set_set] at q
        refine g v H ⟨F, U, T3 ++ S2, q, .cons k2 tmp, Sbp.fr fr (.of_count fun b => ?_), pin⟩
        have h1 := mU.count b
        have h2 := a4.count_eq b
        have h3 := k4.count_eq b
        simp only [List.count_append, List.count_cons, List.count_nil] at h1 h2 h3 ⊢
        omega
    · exact g.elim
  · exact g.elim
end
section
variable {ρ : List O} {Q : O → List O → Prop} {nx bk ct : List O → Prop} {rt : O → List O → Prop} {m : M O} {ml : M (List O)}
@[simp] theorem wM_disp {zs : List Str} : wM (mDisp zs ml ρ) Q = wM (ml ρ) fun xs ρ1 => zs.length = xs.length ∧ Q (.ndc (koZ zs xs)) ρ1 := by
  unfold mDisp
  cases e : ml ρ with
  | ok xs ρ1 => by_cases c : zs.length = xs.length <;> simp [c, wM]
  | _ => rfl
@[simp] theorem wM_moveE {i : Nat} {z : Str} : wM (mMoveE i z ρ) Q = ∃ kvs, qVar i ρ = some (.ndc kvs) ∧ ∃ o, lk kvs (.inr z) = some o ∧ Q o (ρ.set i (.ndc (setO kvs (.inr z) .dead))) := by
  unfold mMoveE
  cases e0 : qVar i ρ with
  | none => simp [wM]
  | some o0 =>
    cases o0 with
    | ndc kvs => cases e1 : lk kvs (.inr z) <;> simp [wM, e1]
    | _ => simp [wM]
@[simp] theorem wM_mtE {i : Nat} {z : Str} {f : List PD → List PD → Option (PD × List PD)} {qs : List O → Option (List O)} : wM (mMtE i z f qs ρ) Q = ∃ kvs, qVar i ρ = some (.ndc kvs) ∧ ∃ ds, lk kvs (.inr z) = some (.lst ds) ∧ ∃ xs, qs ρ = some xs ∧ ∃ zs, fzs xs = some zs ∧ ∃ d ds', f ds zs = some (d, ds') ∧ Q (.fz d) (ρ.set i (.ndc (setO kvs (.inr z) (.lst ds')))) := by
  unfold mMtE
  cases e0 : qVar i ρ with
  | none => simp [wM]
  | some o0 =>
    cases o0 with
    | ndc kvs =>
      cases e1 : lk kvs (.inr z) with
      | none => simp [wM, e1]
      | some o1 =>
        cases o1 with
        | lst ds =>
          cases e2 : qs ρ with
          | none => simp [wM, e1]
          | some xs =>
            cases e3 : fzs xs with
            | none => simp [wM, e1, e3]
            | some zs =>
              cases e4 : f ds zs with
              | none => simp [wM, e1, e3, e4]
              | some r =>
                obtain ⟨d, ds'⟩ := r
                simp [wM, e1, e3, e4]
                exact ⟨fun h => ⟨d, ds', ⟨rfl, rfl⟩, h⟩, fun ⟨_, _, ⟨e1, e2⟩, h⟩ => by rw [e1, e2]; exact h⟩
        | _ => simp [wM, e1]
    | _ => simp [wM]
@[simp] theorem wS_setE {i : Nat} {z : Str} : wS (sSetE i z m ρ) nx rt bk ct = wM (m ρ) fun o ρ1 => ∃ kvs, qVar i ρ1 = some (.ndc kvs) ∧ (kvs.map (·.1)).Nodup ∧ kvs.length < sizeLine ∧ nx (ρ1.set i (.ndc (putO kvs (.inr z) o))) := by
  unfold sSetE
  cases e : m ρ with
  | ok o ρ1 =>
    simp only [wM_ok]
    cases e0 : qVar i ρ1 with
    | none => simp [wS]
    | some o0 =>
      cases o0 with
      | ndc kvs =>
        by_cases c : (kvs.map (·.1)).Nodup ∧ kvs.length < sizeLine
        · simp only [if_pos c]
          apply propext
          constructor
          · intro h; exact ⟨kvs, rfl, c.1, c.2, h⟩
          · rintro ⟨kvs', e1, h1, h2, h3⟩
            cases e1
            exact h3
        · simp only [if_neg c]
          apply propext
          constructor
          · intro h; exact h.elim
          · rintro ⟨kvs', e1, h1, h2, _⟩
            cases e1
            exact (c ⟨h1, h2⟩).elim
      | _ => simp [wS]
  | _ => rfl
@[simp] theorem wS_asgM {f : QT} : wS (sAsgM f m ρ) nx rt bk ct = wM (m ρ) fun o ρ1 => ∃ ρ2, f o ρ1 = some ρ2 ∧ nx ρ2 := by
  unfold sAsgM
  cases e : m ρ with
  | ok o ρ1 => cases e2 : f o ρ1 <;> simp [wS, e2]
  | _ => rfl
@[simp] theorem oIx_ndc {kvs : List (Key × O)} {z : Str} : oIx (.ndc kvs) (.fz (.str z)) = lk kvs (.inr z) := rfl
@[simp] theorem lk_hit {o : O} {x : Key} {r : List (Key × O)} : lk ((x, o) :: r) x = some o := lk_pos rfl
@[simp] theorem setO_hit {o1 o : O} {x : Key} {r : List (Key × O)} : setO ((x, o1) :: r) x o = (x, o) :: r := setO_pos rfl
end
end FM
namespace FM
open PySem PySem.Spec L2 PyProof.Rows
/-! ### range of what has effects -/
section
variable {k : Kc} {E : XK}
noncomputable def iRng1M (m : M O) : M (List PD) := fun ρ => match m ρ with
  | .ok (.fz (.int j)) ρ1 => if big62 j then .ok (rngD 0 j.toNat) ρ1 else .bad
  | .ok _ _ => .bad
  | .exc x ρ1 => .exc x ρ1
  | .bad => .bad
theorem tim_rng1 {te : TE} {m : M O} (h : TEm k E te m) : TIm k E (iRng1 (tCons te tNil)) (iRng1M m) := by
  intro P e σ ρ vs os H R s g
  refine h P e σ ρ vs os H _ s ?_
  unfold iRng1M at g
  cases e1 : m ρ with
  | exc x ρ1 => rw [e1] at g; exact g
  | bad => rw [e1] at g; exact g
  | ok o ρ1 =>
    rw [e1] at g
    intro v H1 s1
    split at g
    · rename_i j ρ2 ee
      cases ee
      split at g
      · rename_i hz
        obtain ⟨F, S1, S2, s1⟩ := s1
        have ev := s1.top.1
        obtain ⟨_, s2⟩ := s1.top
        have hv : v = .int j := by
          cases ev with
          | int => rfl
          | dic _ _ e => cases e
          | dit _ _ e => cases e
        subst hv
        have b := big62_ok hz
        exact ⟨j, rfl, b.1, b.2, g _ F H1 S1 S2 s2 walkD_range⟩
      · exact g.elim
    · exact g.elim
    · rename_i hx; cases hx
    · rename_i hx; cases hx
@[simp] theorem wM_rng1M {m : M O} {ρ : List O} {Q : List PD → List O → Prop} : wM (iRng1M m ρ) Q = wM (m ρ) fun o ρ1 => ∃ j : Int, o = .fz (.int j) ∧ big62 j = true ∧ Q (rngD 0 j.toNat) ρ1 := by
  unfold iRng1M
  cases e : m ρ with
  | ok o ρ1 =>
    cases o with
    | fz d =>
      cases d with
      | int n => by_cases c : big62 n = true <;> simp [c, wM]
      | _ => simp [wM]
    | _ => simp [wM]
  | _ => rfl
end
end FM
namespace FM
open PySem PySem.Spec L2 PyProof.Rows
/-! ### list.remove of ints -/
section
variable {k : Kc}
def fstAt (i : Int) : List Int → Option Nat
  | [] => none
  | n :: r => if n = i then some 0 else (fstAt i r).map (· + 1)
theorem fstAt_is {i : Int} : ∀ {ns : List Int} {j : Nat}, fstAt i ns = some j → ns[j]? = some i ∧ ∀ m, m < j → ns[m]? ≠ some i
  | [], _, h => by cases h
  | n :: r, j, h => by
    unfold fstAt at h
    by_cases c : n = i
    · rw [if_pos c] at h
      cases h
      exact ⟨by simp [c], fun m hm => by omega⟩
    · rw [if_neg c] at h
      obtain ⟨j', e1, e2⟩ := Option.map_eq_some_iff.mp h
      subst e2
      obtain ⟨h1, h2⟩ := fstAt_is e1
      refine ⟨by simpa using h1, fun m hm => ?_⟩
      cases m with
      | zero => simpa using c
      | succ m =>
        have := h2 m (by omega)
        simpa using this
def fRem : List PD → List PD → Option (PD × List PD) := fun ds xs => match xs with
  | [.int i] => match intsD ds with
    | some ns => match fstAt i ns with
      | some j => some (.none, (ns.eraseIdx j).map .int)
      | none => none
    | none => none
  | _ => none
theorem reps_of_ints {K : Frag} {F : Hp} : ∀ (ns : List Int), Reps K F (ns.map V.int) (ns.map .int)
  | [] => .nil
  | n :: r => .cons (.int n) (reps_of_ints r)
theorem lm_rem : LstM k rRemI fRem := by
  intro F H a vs ds ws xs d ds' Q fl ha r rw' e g
  unfold fRem at e
  split at e
  · rename_i i
    split at e
    · rename_i ns en
      split at e
      · rename_i j hj
        cases e
        cases rw' with
        | cons w r2 =>
          cases r2
          have ew := (Vw.fz (k := k) (H := F) (S := []) w).int
          subst ew
          have e3 := intsD_eq en
          subst e3
          rw [reps_ints r] at ha
          obtain ⟨h1, h2⟩ := fstAt_is hj
          exact ⟨a, ns, i, j, rfl, rfl, ha, h1, h2, g _ _ (reps_of_ints _) .non⟩
      · cases e
    · cases e
  · cases e
@[simp] theorem fRem_i {ns : List Int} {i : Int} : fRem (ns.map .int) [.int i] = match fstAt i ns with
    | some j => some (.none, (ns.eraseIdx j).map .int)
    | none => none := by
  have e : intsD (ns.map PyData.int) = some ns := intsD_map ns
  show (match intsD (ns.map PyData.int) with | some ns => _ | none => _) = _
  rw [e]
end
end FM
namespace FM
open PySem PySem.Spec L2 PyProof.Rows
/-! ### instances of classes -/
def pfO (f : Str) (o : O) : List (Str × O) → List (Str × O)
  | [] => [(f, o)]
  | (g, x) :: r => if g = f then (g, o) :: r else (g, x) :: pfO f o r
theorem lu_pos {α : Type} {o : α} {y x : Str} {r : List (Str × α)} (e : y = x) : List.lookup x ((y, o) :: r) = some o := by
  subst e
  simp [List.lookup]
theorem lu_neg {α : Type} {o : α} {y x : Str} {r : List (Str × α)} (e : ¬ y = x) : List.lookup x ((y, o) :: r) = List.lookup x r := by
  have : (x == y) = false := beq_eq_false_iff_ne.mpr fun z => e z.symm
  simp only [List.lookup, this]
theorem pfO_pos {o1 o : O} {y x : Str} {r : List (Str × O)} (e : y = x) : pfO x o ((y, o1) :: r) = (y, o) :: r := if_pos e
theorem pfO_neg {o1 o : O} {y x : Str} {r : List (Str × O)} (e : ¬ y = x) : pfO x o ((y, o1) :: r) = (y, o1) :: pfO x o r := if_neg e
theorem pfO_pfO {x : Str} {o o' : O} : ∀ {fs : List (Str × O)}, pfO x o' (pfO x o fs) = pfO x o' fs
  | [] => if_pos rfl
  | (y, o1) :: r => by
    by_cases q : y = x
    · rw [pfO_pos q, pfO_pos q, pfO_pos q]
    · rw [pfO_neg q, pfO_neg q, pfO_neg q, pfO_pfO]
theorem OwnF.keys {k : Kc} {F H : Hp} : ∀ {vs : List (Str × V)} {os : List (Str × O)} {S : List Addr}, OwnF k F H vs os S → vs.map (·.1) = os.map (·.1)
  | _, _, _, .nil => rfl
  | _, _, _, .cons _ r => congrArg (_ :: ·) (OwnF.keys r)
theorem OwnF.none {k : Kc} {F H : Hp} {x : Str} : ∀ {vs : List (Str × V)} {os : List (Str × O)} {S : List Addr}, OwnF k F H vs os S → os.lookup x = none → vs.lookup x = none
  | _, _, _, .nil, _ => rfl
  | _, _, _, .cons (x := y) h r, e => by
    by_cases q : y = x
    · rw [lu_pos q] at e; cases e
    · rw [lu_neg q] at e ⊢; exact OwnF.none r e
theorem OwnF.take {k : Kc} {F H : Hp} {x : Str} : ∀ {vs : List (Str × V)} {os : List (Str × O)} {S : List Addr} {o : O}, OwnF k F H vs os S → os.lookup x = some o → ∃ v T R, vs.lookup x = some v ∧ Own k F H v o T ∧ OwnF k F H vs (pfO x .dead os) R ∧ (T ++ R).Perm S
  | _, _, _, _, .nil, e => by cases e
  | _, _, _, o, .cons (x := y) (v := v) (o := o1) (os := os) (S := S1) (T := S2) h r, e => by
    by_cases q : y = x
    · rw [lu_pos q] at e
      cases e
      refine ⟨v, S1, S2, lu_pos q, h, ?_, .refl _⟩
      rw [pfO_pos q]
      exact .cons (S := []) .dead r
    · rw [lu_neg q] at e
      obtain ⟨v', T, R, h1, h2, h3, h4⟩ := OwnF.take r e
      refine ⟨v', T, S1 ++ R, by rw [lu_neg q]; exact h1, h2, ?_, ?_⟩
      · rw [pfO_neg q]
        exact .cons h h3
      · have : (T ++ (S1 ++ R)).Perm (S1 ++ (T ++ R)) := by
          rw [← List.append_assoc, ← List.append_assoc]
          exact List.Perm.append_right R List.perm_append_comm
        exact this.trans (List.Perm.append_left S1 h4)
theorem putF_pos {v1 v : V} {y x : Str} {r : List (Str × V)} (e : y = x) : putF x v ((y, v1) :: r) = (y, v) :: r := if_pos e
theorem putF_neg {v1 v : V} {y x : Str} {r : List (Str × V)} (e : ¬ y = x) : putF x v ((y, v1) :: r) = (y, v1) :: putF x v r := if_neg e
theorem OwnF.put {k : Kc} {F H : Hp} {x : Str} {v : V} {o : O} {T : List Addr} (w : Own k F H v o T) : ∀ {vs : List (Str × V)} {os : List (Str × O)} {S : List Addr}, OwnF k F H vs os S → ∃ U, (∀ a, U.count a ≤ (T ++ S).count a) ∧ OwnF k F H (putF x v vs) (pfO x o os) U
  | _, _, _, .nil => ⟨T ++ [], fun a => by simp, .cons w .nil⟩
  | _, _, _, .cons (x := y) (v := v1) (o := o1) (os := os) (S := S1) (T := S2) h r => by
    by_cases q : y = x
    · refine ⟨T ++ S2, fun a => by simp only [List.count_append]; omega, ?_⟩
      rw [putF_pos q, pfO_pos q]
      exact .cons w r
    · obtain ⟨U, h1, h2⟩ := OwnF.put w r
      refine ⟨S1 ++ U, fun a => by have := h1 a; simp only [List.count_append] at this ⊢; omega, ?_⟩
      rw [putF_neg q, pfO_neg q]
      exact .cons h h2
theorem putF_same {x : Str} {v : V} : ∀ {vs : List (Str × V)}, vs.lookup x = some v → putF x v vs = vs
  | [], e => by cases e
  | (y, v1) :: r, e => by
    by_cases q : y = x
    · rw [lu_pos q] at e
      cases e
      exact putF_pos q
    · rw [lu_neg q] at e
      rw [putF_neg q, putF_same e]
section
variable {k : Kc} {E : XK}
/-- the slot's instance -/
theorem StW.insAt {P : List (Nat × V)} {e : Ent} {σ : L2.St} {ρ : List O} {vs : List V} {os : List O} {F H : Hp} {S1 S2 : List Addr} {i c : Nat} {fs : List (Str × O)} (s : StW k P e σ ρ vs os F H S1 S2) (e0 : qVar i ρ = some (.ins c fs)) :
    ∃ a dx ws, σ[i]? = some (some (.ref a)) ∧ H a = some (.ins (k.cl c) dx ws) ∧ ws.length = fs.length ∧ ∀ x, fs.lookup x = none → ws.lookup x = none := by
  obtain ⟨g1, g2⟩ := qVar_some e0
  obtain ⟨w, T, R, a1, a2, a3, a4⟩ := s.env.take g1 g2
  cases a2 with
  | @ins a dx _ ws _ T2 hd hk =>
    refine ⟨a, dx, ws, a1, hd, ?_, fun x e => hk.none e⟩
    have := congrArg List.length hk.keys
    simpa using this
/-- storing what stands on top into a field -/
theorem StW.fldPut {P : List (Nat × V)} {e : Ent} {σ : L2.St} {ρ : List O} {v : V} {o : O} {vs : List V} {os : List O} {F H : Hp} {S1 S2 : List Addr} {i c : Nat} {x : Str} {fs : List (Str × O)} (s : StW k P e σ ρ (v :: vs) (o :: os) F H S1 S2) (e0 : qVar i ρ = some (.ins c fs)) :
    ∃ a dx ws, σ[i]? = some (some (.ref a)) ∧ H a = some (.ins (k.cl c) dx ws) ∧ ws.length = fs.length ∧ ∃ U S3, StW k P e σ (ρ.set i (.ins c (pfO x o fs))) vs os F (upd H a (.ins (k.cl c) dx (putF x v ws))) U S3 := by
  obtain ⟨env, tmp, fr, pin⟩ := s
  obtain ⟨g1, g2⟩ := qVar_some e0
  obtain ⟨w, T, R, a1, a2, a3, a4⟩ := env.take g1 g2
  cases tmp with
  | @cons _ _ _ _ Tv S3 hv tmp =>
    cases a2 with
    | @ins a dx _ ws _ T2 hd hk =>
      have fr2 : Fr e F H (a :: (T2 ++ (Tv ++ (R ++ S3)))) := Sbp.fr fr (.of_count fun b => by
        have c2 := a4.count_eq b
        simp only [List.count_append, List.count_cons, List.count_nil] at c2 ⊢
        omega)
      have nd := List.nodup_cons.mp fr2.nd
      have keep : ∀ U : List Addr, (∀ b ∈ U, b ∈ T2 ++ (Tv ++ (R ++ S3))) → At U H (upd H a (.ins (k.cl c) dx (putF x v ws))) := fun U m b mb u z => by
        rw [upd_ne (fun q => nd.1 (by rw [← q]; exact m b mb))]
        exact z
      have fw := fr2.write (a := a) (o := .ins (k.cl c) dx (putF x v ws)) List.mem_cons_self (fun _ _ z => by cases z)
      have env3 := a3.mono (Same.refl F) (keep R fun b m => List.mem_append_right _ (List.mem_append_right _ (List.mem_append_left _ m)))
      have tmp3 := tmp.mono (Same.refl F) (keep S3 fun b m => List.mem_append_right _ (List.mem_append_right _ (List.mem_append_right _ m)))
      have hk3 := hk.mono (Same.refl F) (keep T2 fun b m => List.mem_append_left _ m)
      have hv3 := hv.mono (Same.refl F) (keep Tv fun b m => List.mem_append_right _ (List.mem_append_left _ m))
      obtain ⟨U3, m3, q3⟩ := OwnF.put (x := x) hv3 hk3
      have el : ws.length = fs.length := by
        have := congrArg List.length hk.keys
        simpa using this
      obtain ⟨U, mU, q⟩ := env3.put (i := i) a1 (Own.ins (k := k) (F := F) upd_same q3)
      rw [List.set_set] at q
      exact ⟨a, dx, ws, a1, hd, el, U, S3, q, tmp3, Sbp.fr fw (.of_count fun b => by
        have h1 := mU.count b
        have h2 := m3 b
        simp only [List.count_append, List.count_cons, List.count_nil] at h1 h2 ⊢
        omega), pin⟩
def sSetF (c i : Nat) (x : Str) (m : M O) : MS := fun ρ => match m ρ with
  | .ok o ρ1 => match qVar i ρ1 with
    | some (.ins c' fs) => if c' = c ∧ fs.length < 1000 then .next (ρ1.set i (.ins c (pfO x o fs))) else .bad
    | _ => .bad
  | .exc x ρ1 => .exc x ρ1
  | .bad => .bad
theorem tsm_setF {c i : Nat} {x : Str} {te : TE} {m : M O} (hc : Cls k.K (k.cl c)) (hn : NoAttr k.K (k.cl c) x) (h : TEm k E te m) : TSm k E [] (sFld k.K (tVar i) te x) (sSetF c i x m) := by
  intro P e σ ρ vs os H D o st g
  refine h P e σ ρ vs os H _ st ?_
  unfold sSetF at g
  cases e1 : m ρ with
  | exc x ρ1 => rw [e1] at g; exact g.exc
  | bad => rw [e1] at g; exact g
  | ok w ρ1 =>
    rw [e1] at g
    intro v H1 s1
    simp only at g
    obtain ⟨F, S1, S2, s1⟩ := s1
    split at g
    · rename_i c' fs e2
      split at g
      · rename_i hz
        obtain ⟨rfl, hz⟩ := hz
        obtain ⟨a, dx, ws, a1, a2, a3, U, S3, s5⟩ := s1.fldPut (x := x) e2
        exact ⟨.ref a, a1, a, _, dx, ws, rfl, a2, hc, hn, by rw [a3]; exact hz, g σ _ ⟨F, U, S3, s5⟩⟩
      · exact g.elim
    · exact g.elim
/-- a field that is read -/
def qFld (c i : Nat) (x : Str) : QE := fun ρ => match qVar i ρ with
  | some (.ins c' fs) => if c' = c then match fs.lookup x with
      | some .dead => none
      | r => r
    else none
  | _ => none
theorem qFld_some {c i : Nat} {x : Str} {ρ : List O} {o : O} (e : qFld c i x ρ = some o) : ∃ fs, qVar i ρ = some (.ins c fs) ∧ fs.lookup x = some o ∧ o ≠ .dead := by
  unfold qFld at e
  split at e
  · rename_i c' fs e0
    split at e
    · rename_i hc
      subst hc
      split at e
      · cases e
      · rename_i hn
        exact ⟨fs, e0, e, fun z => hn (by rw [e, z])⟩
    · cases e
  · cases e
theorem tev_fld {c i : Nat} {x : Str} (hc : Cls k.K (k.cl c)) (hn : NoAttr k.K (k.cl c) x) : TEv k (tFld k.K (tVar i) x) (qFld c i x) := by
  intro F H σ ρ S o Q q e h
  obtain ⟨fs, e0, e1, e2⟩ := qFld_some e
  obtain ⟨v, hv, T, mT, w⟩ := q.env.slot e0
  cases w with
  | @ins a dx _ ws _ T2 hd hk =>
    obtain ⟨v, T3, R, b1, b2, b3, b4⟩ := hk.take e1
    exact ⟨.ref a, hv, a, _, dx, ws, v, rfl, hd, hc, hn, b1, h v F H (Xt.refl q.fle) ⟨T3, fun z m => mT z (List.mem_cons_of_mem _ (b4.subset (List.mem_append_left _ m))), b2⟩⟩
/-- the field's list: where it stands, and what may be written there -/
theorem StW.fldAt {P : List (Nat × V)} {e : Ent} {σ : L2.St} {ρ : List O} {vs : List V} {os : List O} {F H : Hp} {S1 S2 : List Addr} {i c : Nat} {x : Str} {fs : List (Str × O)} {ds : List PD} (s : StW k P e σ ρ vs os F H S1 S2) (e0 : qVar i ρ = some (.ins c fs)) (e1 : fs.lookup x = some (.lst ds)) :
    ∃ a dx ws b us, σ[i]? = some (some (.ref a)) ∧ H a = some (.ins (k.cl c) dx ws) ∧ ws.lookup x = some (.ref b) ∧ H b = some (.lst us) ∧ Reps k.K F us ds ∧ ∀ us' ds', Reps k.K F us' ds' → ∃ U, StW k P e σ (ρ.set i (.ins c (pfO x (.lst ds') fs))) vs os F (upd H b (.lst us')) U S2 := by
  obtain ⟨env, tmp, fr, pin⟩ := s
  obtain ⟨g1, g2⟩ := qVar_some e0
  obtain ⟨v, T, R, a1, a2, a3, a4⟩ := env.take g1 g2
  cases a2 with
  | @ins d dx _ es _ T2 hd hk =>
    obtain ⟨v, T3, R3, k1, k2, k3, k4⟩ := hk.take e1
    cases k2 with
    | @lst b us _ h r =>
      have fr2 : Fr e F H (b :: d :: (R3 ++ (R ++ S2))) := Sbp.fr fr (.of_count fun z => by
        have c2 := a4.count_eq z
        have c3 := k4.count_eq z
        simp only [List.count_append, List.count_cons, List.count_nil] at c2 c3 ⊢
        omega)
      have ha : H b = some (.lst us) := by
        rcases h with h | ⟨ob, h⟩
        · exact h
        · exact (fr2.nofz b List.mem_cons_self ob _ h).elim
      refine ⟨d, dx, es, b, us, a1, hd, k1, ha, r, fun us' ds' r' => ?_⟩
      have nd := List.nodup_cons.mp fr2.nd
      have keep : ∀ U : List Addr, (∀ z ∈ U, z ∈ d :: (R3 ++ (R ++ S2))) → At U H (upd H b (.lst us')) := fun U m z mz u q => by
        rw [upd_ne (fun w => nd.1 (by rw [← w]; exact m z mz))]
        exact q
      have fw := fr2.write (a := b) (o := .lst us') List.mem_cons_self (fun _ _ z => by cases z)
      have env3 := a3.mono (Same.refl F) (keep R fun b m => List.mem_cons_of_mem _ (List.mem_append_right _ (List.mem_append_left _ m)))
      have tmp3 := tmp.mono (Same.refl F) (keep S2 fun b m => List.mem_cons_of_mem _ (List.mem_append_right _ (List.mem_append_right _ m)))
      have hk3 := k3.mono (Same.refl F) (keep R3 fun b m => List.mem_cons_of_mem _ (List.mem_append_left _ m))
      have hne : d ≠ b := fun q => nd.1 (by rw [← q]; exact List.mem_cons_self)
      obtain ⟨U3, m3, q3⟩ := hk3.put (x := x) (Own.lst (k := k) (F := F) (.inl upd_same) r')
      rw [pfO_pfO, putF_same k1] at q3
      obtain ⟨U, mU, q⟩ := env3.put (i := i) a1 (Own.ins (k := k) (F := F) (by rw [upd_ne hne]; exact hd) q3)
      rw [List.set_set] at q
      exact ⟨U, q, tmp3, Sbp.fr fw (.of_count fun z => by
        have h1 := mU.count z
        have h2 := m3 z
        simp only [List.count_append, List.count_cons, List.count_nil] at h1 h2 ⊢
        omega), pin⟩
/-- a method of a field's list, its arguments quiet -/
def mMtF (c i : Nat) (x : Str) (f : List PD → List PD → Option (PD × List PD)) (qs : List O → Option (List O)) : M O := fun ρ => match qVar i ρ with
  | some (.ins c' fs) => if c' = c then match fs.lookup x with
    | some (.lst ds) => match qs ρ with
      | some xs => match fzs xs with
        | some zs => match f ds zs with
          | some r => .ok (.fz r.1) (ρ.set i (.ins c (pfO x (.lst r.2) fs)))
          | none => .bad
        | none => .bad
      | none => .bad
    | _ => .bad
    else .bad
  | _ => .bad
theorem tem_mtF {c i : Nat} {x : Str} {r : V → List V → Hp → VK → Prop} {f : List PD → List PD → Option (PD × List PD)} {ta : TA} {qs : List O → Option (List O)} (hc : Cls k.K (k.cl c)) (hn : NoAttr k.K (k.cl c) x) (h : TAv k ta qs) (hr : LstM k r f) : TEm k E (tBM k.K "list" r (tFld k.K (tVar i) x) ta) (mMtF c i x f qs) := by
  intro P e σ ρ vs os H Q s g
  unfold mMtF at g
  split at g
  · rename_i c' fs e0
    split at g
    · rename_i ec
      subst ec
      split at g
      · rename_i ds e1
        split at g
        · rename_i xs e2
          split at g
          · rename_i zs e3
            cases e4 : f ds zs with
            | none => rw [e4] at g; exact g.elim
            | some rr =>
              rw [e4] at g
              obtain ⟨F, S1, S2, s⟩ := s
              obtain ⟨a, dx, ws, b, us, a1, a2, a3, a4, a5, a6⟩ := s.fldAt e0 e1
              refine ⟨.ref a, a1, a, _, dx, ws, .ref b, rfl, a2, hc, hn, a3, .inl ⟨rfl, us, .inl (.inl a4)⟩, h F H σ ρ S1 xs _ s.qs e2 fun us2 F1 H1 x1 w1 => ?_⟩
              have s2 := s.xt x1
              obtain ⟨a', dx', ws', b', us', c1, c2, c3, c4, c5, c6⟩ := s2.fldAt e0 e1
              rw [a1] at c1
              cases c1
              have hd := x1.ex _ _ a2
              rw [hd] at c2
              cases c2
              rw [a3] at c3
              cases c3
              have ru := w1.fzs e3
              refine hr F1 H1 b us' ds us2 zs rr.1 rr.2 Q s2.fr.fle c4 c5 ru e4 fun v vs' rv rd => ?_
              obtain ⟨U, s5⟩ := c6 vs' rr.2 rv
              exact g v _ ⟨F1, U, [] ++ S2, s5.env, .cons (.fz rd) s5.tmp, s5.fr, s5.pin⟩
          · exact g.elim
        · exact g.elim
      · exact g.elim
    · exact g.elim
  · exact g.elim
/-- a field of what is told, taken out -/
def mFldT (c : Nat) (x : Str) (m : M O) : M O := fun ρ => match m ρ with
  | .ok (.ins c' fs) ρ1 => if c' = c then match fs.lookup x with
      | some o => .ok o ρ1
      | none => .bad
    else .bad
  | .ok _ _ => .bad
  | .exc x ρ1 => .exc x ρ1
  | .bad => .bad
theorem tem_fldT {c : Nat} {x : Str} {te : TE} {m : M O} (hc : Cls k.K (k.cl c)) (hn : NoAttr k.K (k.cl c) x) (h : TEm k E te m) : TEm k E (tFld k.K te x) (mFldT c x m) := by
  intro P e σ ρ vs os H Q s g
  refine h P e σ ρ vs os H _ s ?_
  unfold mFldT at g
  cases e1 : m ρ with
  | exc x ρ1 => rw [e1] at g; exact g
  | bad => rw [e1] at g; exact g
  | ok o ρ1 =>
    rw [e1] at g
    intro v H1 s1
    cases o with
    | ins c' fs =>
      simp only at g
      split at g
      · rename_i ec
        subst ec
        split at g
        · rename_i o' e2
          obtain ⟨F, S1, S2, env, tmp, fr, pin⟩ := s1
          cases tmp with
          | @cons _ _ _ _ T U w r =>
            cases w with
            | @ins a dx _ ws _ T2 hd hk =>
              obtain ⟨v, T3, R, b1, b2, b3, b4⟩ := hk.take e2
              exact ⟨a, _, dx, ws, v, rfl, hd, hc, hn, b1, g v H1 ⟨F, S1, T3 ++ U, env, .cons b2 r, Sbp.fr fr (.of_count fun z => by
                have := b4.count_eq z
                simp only [List.count_append, List.count_cons] at this ⊢
                omega), pin⟩⟩
        · exact g.elim
      · exact g.elim
    | _ => exact g.elim
end
end FM
namespace FM
open PySem PySem.Spec L2 PyProof.Rows
/-! ### methods, new instances, instances frozen -/
structure MethG (P : Program) (w : World) (K : Frag) (mg : Str → Option Value) (base : Heap) (k : Nat) (C : Addr) (m : Str) (sp : Sp) : Prop where
  ex : ∃ (f : Addr) (fd : FuncData) (ps : List Str), FnG P w K mg base (CXg P w) k f fd ps sp ∧ Cls K C ∧ Meth K C m f ∧ Binds K fd ps []
structure MakG (P : Program) (w : World) (K : Frag) (mg : Str → Option Value) (base : Heap) (k : Nat) (x : Str) (C : Addr) (sp : Sp) : Prop where
  ex : ∃ (f : Addr) (fd : FuncData) (ps : List Str), FnG P w K mg base (CXg P w) k f fd ps sp ∧ Mk K C f ∧ mg x = some (.ref C) ∧ Binds K fd ps []
section
variable {X : Cx} {CX : CXT} {j k : Nat} {f C : Addr} {fd : FuncData} {ps : List Str} {sp : Sp} {E : XK} {x m : Str} {p pos apos : Pos} {e o : Expr} {es : List Expr} {ta : TE} {t : TA} {dvs : List V} {ds : List Value}
theorem run_makeG {pins : List (Addr × Obj)} {σ : L2.St} {H : Hp} {s : Shared} {Q : VK} {us : List Value} {vs : List V} (M : Mk X.K C f) (F : FnG X.prog X.w X.K X.mg X.base CX k f fd ps sp) (hr : RoomG (k + 1) X.A) (hb : Binds X.K fd ps ds) (hd : Vals dvs ds)
    (hx : Passes CX X E) (I : Inv X pins σ H s) (r : Vals vs us)
    (h : ∀ x dx, H x = none → H dx = none → dx ≠ x → sp (.ref x :: (vs ++ dvs)) (upd (upd H dx (.own x)) x (.ins C dx [])) (fun v H2 => v = .non ∧ Q (.ref x) H2) E) :
    wpAny (model X.prog X.w) X.A (call (.ref C) us) (EP X pins σ Q) X.xe s := by
  have hq := h (s.heap.objs.size + 1) s.heap.objs.size (I.hok.fresh (Nat.le_succ _)) (I.hok.fresh (Nat.le_refl _)) (Nat.ne_of_lt (Nat.lt_succ_self _))
  have J := Inv.made (C := C) I
  have q2 : Vals (V.ref (s.heap.objs.size + 1) :: (vs ++ dvs)) (Value.ref (s.heap.objs.size + 1) :: (us ++ ds)) := .cons rfl (r.append hd)
  have el : (Value.ref (s.heap.objs.size + 1) :: us ++ ds).length = ps.length := by
    have z := q2.length
    rw [F.len _ _ _ _ hq] at z
    exact z.symm
  have go := F.run _ X.stack _ _ ⟨Value.ref (s.heap.objs.size + 1) :: us, []⟩ (Value.ref (s.heap.objs.size + 1) :: (us ++ ds)) _ _ E (hr.make C us []) (J.env0.make C us []) (hb _ (Value.ref (s.heap.objs.size + 1) :: us) J.kIn el) q2 hq
  refine wpAny_call (make_map (f := f) I.kIn M.makes M.init (beq_iff_eq.mp M.fn) (codeAny_mono go fun z s' hz => ?_))
  cases z with
  | error e => exact hx pins σ _ _ e s' J hz
  | ok fl =>
    cases fl with
    | ret u =>
      obtain ⟨v, H', J2, rv, ev, g⟩ := J.after hz
      subst ev
      exact ⟨rv, ⟨V.ref (s.heap.objs.size + 1), H', J2, rfl, g⟩⟩
    | _ => exact hz.elim
theorem pe_new0 (c : MakG X.prog X.w X.K X.mg X.base k x C sp) (hr : RoomG j X.A) (hk : k + 1 ≤ j) (hx : Passes (CXg X.prog X.w) X E) (hg : Gl X x)
    (hdb : (x == ("__debug__" : Str)) = false := by decide) : PE X (.Call (.Name x p) [] [] pos) (tMake C sp [] E tNil) := by
  obtain ⟨f, fd, ps, F, M, hm, hb⟩ := c.ex
  refine ⟨fun pins s σ H Q I h => wpAny_Call_Name_kw (ld_glob I hg hm ?_ hdb)⟩
  exact PySem.W.callWith_K0 I.kIn M.kp (run_makeG (us := []) M F (hr.mono hk) hb .nil hx I .nil h)
theorem pe_new (c : MakG X.prog X.w X.K X.mg X.base k x C sp) (hr : RoomG j X.A) (hk : k + 1 ≤ j) (hx : Passes (CXg X.prog X.w) X E) (hg : Gl X x) (ha : PA X (e :: es) t)
    (hdb : (x == ("__debug__" : Str)) = false := by decide) (he : starEach (e :: es) X.env = (false, eval e X.env) :: starEach es X.env := by rfl) (hpl : (backTo pos (starEach es X.env)).any (·.1) = false := by rfl) :
    PE X (.Call (.Name x p) (e :: es) [] pos) (tMake C sp [] E t) := by
  obtain ⟨f, fd, ps, F, M, hm, hb⟩ := c.ex
  refine ⟨fun pins s σ H Q I h => wpAny_Call_Name_kw (ld_glob I hg hm ?_ hdb)⟩
  exact PySem.W.callWith_K (h₀ := X.base) I.ok.mod.kin M.kp (thn (ha.run pos pins s σ H _ I h) fun us s1 ⟨vs, H1, I1, r, q⟩ => ⟨I1.kIn, run_makeG M F (hr.mono hk) hb .nil hx I1 r q⟩) he hpl
/-- what a call of a method is, as PySem's own text reads it -/
def plOf (o : Expr) (env : Env) : Sem Bool := do return (← importBound o env).getD true
theorem mth_form {o : Expr} {m : Str} {apos pos : Pos} {args : List Expr} {env : Env} (hbase : attributeBase o m env (eval o env) = eval o env)
    (hform : methodCallForm (args.length + ([] : List Keyword).length) (backTo pos (starEach args env)) (backToKw pos (keywordEach [] env)) = true) (hline : (apos.endLine == pos.line) = true) :
    eval (.Call (.Attribute o m apos) args [] pos) env = (do
      let ov ← eval o env
      standAt apos.atName
      let (f, first) ← holding [ov] (getMethod ov m (plOf o env))
      callWith pos f first (backTo pos (starEach args env)) (backToKw pos (keywordEach [] env))) := by
  rw [arm_eval_Call, hbase]
  unfold methodCall calleeOf methodCallPos
  rw [hform, hline]
  rfl
theorem pe_mth (c : MethG X.prog X.w X.K X.mg X.base k C m sp) (hr : RoomG j X.A) (hk : k ≤ j) (hx : Passes (CXg X.prog X.w) X E) (he : PE X o ta) (ha : PA X (e :: es) t)
    (hst : starEach (e :: es) X.env = (false, eval e X.env) :: starEach es X.env := by rfl) (hpl : (backTo pos (starEach es X.env)).any (·.1) = false := by rfl)
    (hbase : attributeBase o m X.env (eval o X.env) = eval o X.env := by rfl)
    (hform : methodCallForm ((e :: es).length + ([] : List Keyword).length) (backTo pos (starEach (e :: es) X.env)) (backToKw pos (keywordEach [] X.env)) = true := by rfl)
    (hline : (apos.endLine == pos.line) = true := by rfl) :
    PE X (.Call (.Attribute o m apos) (e :: es) [] pos) (tMeth C m sp [] E ta t) := by
  obtain ⟨f, fd, ps, F, hc, hm, hb⟩ := c.ex
  exact pe_methG (pl := plOf o X.env) he hc hm F (hr.mono hk) hb .nil hx ha hst hpl (mth_form hbase hform hline)
theorem pe_mth0 (c : MethG X.prog X.w X.K X.mg X.base k C m sp) (hr : RoomG j X.A) (hk : k ≤ j) (hx : Passes (CXg X.prog X.w) X E) (he : PE X o ta)
    (hbase : attributeBase o m X.env (eval o X.env) = eval o X.env := by rfl)
    (hform : methodCallForm (([] : List Expr).length + ([] : List Keyword).length) (backTo pos (starEach [] X.env)) (backToKw pos (keywordEach [] X.env)) = true := by rfl)
    (hline : (apos.endLine == pos.line) = true := by rfl) :
    PE X (.Call (.Attribute o m apos) [] [] pos) (tMeth C m sp [] E ta tNil) := by
  obtain ⟨f, fd, ps, F, hc, hm, hb⟩ := c.ex
  exact pe_meth0G (pl := plOf o X.env) he hc hm F (hr.mono hk) hb .nil hx (mth_form hbase hform hline)
end
theorem MethG.bad {P : Program} {w : World} {K : Frag} {mg : Str → Option Value} {base : Heap} {m : Str} {f C : Addr} {fd : FuncData} {ps : List Str} {kc : Kc} {n k : Nat} {g : List O → FR} (hg : g = fun _ => .bad)
    (hc : Cls K C) (hm : Meth K C m f) (b : Binds K fd ps []) : MethG P w K mg base k C m (spM kc n g) := by
  subst hg
  exact ⟨f, fd, ps, ⟨fun vs H Q E h => let ⟨_, _, _, _, _, _, z⟩ := h; z.elim, fun A outer s H args us vs Q E _ _ _ _ h => let ⟨_, _, _, _, _, _, z⟩ := h; z.elim⟩, hc, hm, b⟩
section
variable {k : Kc} {E : XK}
/-- o.m(..), o a slot's instance -/
def mMeth (c i : Nat) (nm : Str) (f : List O → FR) (as : List (Option Nat)) (ma : M (List O)) : M O := fun ρ => match qVar i ρ with
  | some (.ins c' fs) => if c' = c ∧ fs.lookup nm = none then mCall f (some i :: as) (mRef i ma) ρ else .bad
  | _ => .bad
theorem tem_meth {c i : Nat} {nm : Str} {tl : TA} {as : List (Option Nat)} {ma : M (List O)} {n : Nat} {f : List O → FR} (hn : as.length + 1 = n) (h : TAm k E tl as ma) : TEm k E (tMeth (k.cl c) nm (spM k n f) [] E (tVar i) tl) (mMeth c i nm f as ma) := by
  intro P e σ ρ vs os H Q s g
  unfold mMeth at g
  split at g
  · rename_i c' fs e0
    split at g
    · rename_i hc
      obtain ⟨rfl, hl⟩ := hc
      obtain ⟨v, hv, z⟩ := tem_call (as := some i :: as) (f := f) hn (tam_ref (i := i) h) P e σ ρ vs os H Q s g
      obtain ⟨F, S1, S2, s⟩ := s
      obtain ⟨a, dx, ws, a1, a2, a3, a4⟩ := s.insAt e0
      rw [a1] at hv
      cases hv
      exact ⟨.ref a, a1, a, dx, ws, rfl, a2, a4 _ hl, z⟩
    · exact g.elim
  · exact g.elim
/-- C(..) -/
def mMake (c : Nat) (f : List O → FR) (ma : M (List O)) : M O := fun ρ => match ma ρ with
  | .ok xs ρ1 => match f (.ins c [] :: xs) with
    | .ret (.fz .none) (o :: _) => .ok o ρ1
    | _ => .bad
  | .exc x ρ1 => .exc x ρ1
  | .bad => .bad
theorem tem_make {c : Nat} {tl : TA} {as : List (Option Nat)} {ma : M (List O)} {n : Nat} {f : List O → FR} (hn : as.length + 1 = n) (h : TAm k E tl as ma) (hlen : ∀ ρ xs ρ', ma ρ = .ok xs ρ' → xs.length = as.length) : TEm k E (tMake (k.cl c) (spM k n f) [] E tl) (mMake c f ma) := by
  intro P e σ ρ vs os H Q s g
  refine h P e σ ρ vs os H _ s ?_
  unfold mMake at g
  cases e1 : ma ρ with
  | bad => rw [e1] at g; exact g
  | exc x ρ1 => rw [e1] at g; exact g
  | ok xs ρ1 =>
    rw [e1] at g
    simp only at g
    intro ws H1 s1 hl hr x dx hx hdx hne
    obtain ⟨F, S1, S2, s1⟩ := s1
    have X1 : Xt F H1 F (upd H1 dx (.own x)) := Xt.own s1.fr.fle hdx
    have hx2 : (upd H1 dx (.own x)) x = none := by rw [upd_ne (fun q => hne q.symm)]; exact hx
    have X2 : Xt F (upd H1 dx (.own x)) F (upd (upd H1 dx (.own x)) x (.ins (k.cl c) dx [])) := Xt.own X1.fle hx2
    have Xx := X1.trans X2
    have s2 := s1.push Xx (v := .ref x) (o := .ins c []) (T := [x]) (.ins upd_same .nil) ⟨List.nodup_cons.mpr ⟨List.not_mem_nil, .nil⟩, (fun a m => by rw [List.mem_singleton.mp m]; exact hx), (fun a m => by rw [List.mem_singleton.mp m]; exact fle_none s1.fr.fle hx), (fun a m o u z => by rw [List.mem_singleton.mp m, upd_same] at z; cases z)⟩
    obtain ⟨env, tmp, fr, pin⟩ := s2
    obtain ⟨A, B, eS, o1, o2⟩ := Owns.split (ws := .ref x :: ws) (xs := .ins c [] :: xs) (by simp [hl]) tmp
    have fr' : Fr e F _ (A ++ (S1 ++ B)) := Sbp.fr fr (.of_count fun a => by
      rw [eS]
      simp only [List.count_append]
      omega)
    rw [List.append_nil]
    refine ⟨by rw [List.length_cons, hl, hlen _ _ _ e1]; exact hn, F, .ins c [] :: xs, A, o1, (fr'.sub (List.sublist_append_left _ _)).refl, ?_⟩
    cases e3 : f (.ins c [] :: xs) with
    | bad => rw [e3] at g; exact g
    | exc _ _ => rw [e3] at g; exact g.elim
    | ret o outs =>
      rw [e3] at g
      intro v H' z
      obtain ⟨F', S', p1, p2⟩ := z
      obtain ⟨p3, p4⟩ := fr'.call p2
      cases o with
      | fz d =>
        cases d with
        | none =>
          cases outs with
          | nil => exact g.elim
          | cons o outs =>
            cases p1 with
            | @cons _ _ _ _ T U w r =>
              cases w with
              | fz w =>
                cases r with
                | @cons _ _ _ _ T2 U2 w2 r2 =>
                  refine ⟨by cases w <;> first | rfl | (rename_i e; cases e), g _ H' ⟨F', S1, T2 ++ B, env.mono p2.f0 p4.left, .cons w2 (o2.mono p2.f0 p4.right), Sbp.fr p3 (.of_count fun a => ?_), pin⟩⟩
                  simp only [List.nil_append, List.count_append]
                  omega
        | _ => exact g.elim
      | _ => exact g.elim
theorem nil_len (ρ : List O) (xs : List O) (ρ' : List O) (e : mNil ρ = .ok xs ρ') : xs.length = 0 := by
  cases e
  rfl
theorem cons_len {m : M O} {r : M (List O)} {n : Nat} (h : ∀ ρ xs ρ', r ρ = .ok xs ρ' → xs.length = n) (ρ : List O) (xs : List O) (ρ' : List O) (e : mCons m r ρ = .ok xs ρ') : xs.length = n + 1 := by
  unfold mCons at e
  split at e
  · split at e
    · rename_i e2
      cases e
      rw [List.length_cons, h _ _ _ e2]
    · cases e
    · cases e
  · cases e
  · cases e
/-! frozen fields -/
def frzFs : List (Str × O) → Option (List (Str × O))
  | [] => some []
  | (x, o) :: r => match toPD o, frzFs r with
    | some d, some r' => some ((x, .fz d) :: r')
    | _, _ => none
theorem OwnF.freeze {F H : Hp} {T : List Addr} (off : ∀ a ∈ T, F a = Option.none) : ∀ {vs : List (Str × V)} {os os' : List (Str × O)} {S : List Addr}, OwnF k F H vs os S → (∀ a ∈ S, a ∈ T) → frzFs os = some os' → OwnF k (over F H T) H vs os' []
  | _, _, _, _, .nil, _, e => by
    cases e
    exact .nil
  | _, _, os', _, .cons (o := o) (os := os) (S := S1) h r, m, e => by
    unfold frzFs at e
    cases e1 : toPD o with
    | none => rw [e1] at e; cases e
    | some d =>
      cases e2 : frzFs os with
      | none => rw [e1, e2] at e; cases e
      | some r' =>
        rw [e1, e2] at e
        cases e
        have q := own_fz (T := T) (over_sub off) (fun a u z rr => over_rd z rr) (fun a vs z rr => by rw [over_in z]; exact rr) (fun a z => m a (List.mem_append_left _ z)) h e1
        exact .cons (S := []) (T := []) (.fz q) (OwnF.freeze off r (fun a z => m a (List.mem_append_right _ z)) e2)
theorem StW.frzI {P : List (Nat × V)} {e : Ent} {σ : L2.St} {ρ : List O} {vs : List V} {os : List O} {F H : Hp} {S1 S2 : List Addr} {v : V} {c : Nat} {fs fs' : List (Str × O)} (s : StW k P e σ ρ (v :: vs) (.ins c fs :: os) F H S1 S2) (e1 : frzFs fs = some fs') :
    St k P e σ ρ (v :: vs) (.ins c fs' :: os) H := by
  obtain ⟨env, tmp, fr, pin⟩ := s
  cases tmp with
  | @cons _ _ _ _ T U w r =>
    cases w with
    | @ins a dx _ ws _ T2 hd hk =>
      have fr' : Fr e F H (T2 ++ ([a] ++ (S1 ++ U))) := Sbp.fr fr (.of_count fun z => by
        simp only [List.count_append, List.count_cons, List.count_nil]
        omega)
      have f2 := fr'.freeze
      have off : ∀ a ∈ T2, F a = none := fun a m => fr'.off a (List.mem_append_left _ m)
      refine ⟨over F H T2, S1, ([a] ++ U), env.mono (over_sub off) (At.of (Same.refl _)), .cons (S := [a]) (.ins hd (OwnF.freeze off hk (fun _ z => z) e1)) (r.mono (over_sub off) (At.of (Same.refl _))), Sbp.fr f2 (.of_count fun z => ?_), pin⟩
      simp only [List.count_append, List.count_cons, List.count_nil]
      omega
def frzIM (m : M O) : M O := fun ρ => match m ρ with
  | .ok (.ins c fs) ρ1 => match frzFs fs with
    | some fs' => .ok (.ins c fs') ρ1
    | none => .bad
  | .ok _ _ => .bad
  | .exc x ρ1 => .exc x ρ1
  | .bad => .bad
theorem tem_frzI {te : TE} {m : M O} (h : TEm k E te m) : TEm k E te (frzIM m) := by
  intro P e σ ρ vs os H Q s g
  refine h P e σ ρ vs os H Q s ?_
  unfold frzIM at g
  cases e1 : m ρ with
  | exc x ρ1 => rw [e1] at g; exact g
  | bad => rw [e1] at g; exact g
  | ok o ρ1 =>
    rw [e1] at g
    cases o with
    | ins c fs =>
      simp only at g
      cases e2 : frzFs fs with
      | none => rw [e2] at g; exact g.elim
      | some fs' =>
        rw [e2] at g
        intro v H' s'
        obtain ⟨F, S1, S2, s'⟩ := s'
        exact g v H' (s'.frzI e2)
    | _ => exact g.elim
def frzIO (i : Nat) (ρ : List O) : List O := match qVar i ρ with
  | some (.ins c fs) => match frzFs fs with
    | some fs' => ρ.set i (.ins c fs')
    | none => ρ
  | _ => ρ
theorem St.frzIS {P : List (Nat × V)} {e : Ent} {σ : L2.St} {ρ : List O} {vs : List V} {os : List O} {H : Hp} {i : Nat} (s : St k P e σ ρ vs os H) : St k P e σ (frzIO i ρ) vs os H := by
  unfold frzIO
  split
  · rename_i c fs e0
    split
    · rename_i fs' e1
      obtain ⟨F, S1, S2, env, tmp, fr, pin⟩ := s
      obtain ⟨g1, g2⟩ := qVar_some e0
      obtain ⟨v, T, R, a1, a2, a3, a4⟩ := env.take g1 g2
      have s2 : St k P e σ (ρ.set i .dead) (v :: vs) (.ins c fs' :: os) H := by
        refine StW.frzI ⟨a3, .cons a2 tmp, Sbp.fr fr (.of_count fun a => ?_), pin⟩ e1
        have c2 := a4.count_eq a
        simp only [List.count_append] at c2 ⊢
        omega
      obtain ⟨F2, U1, U2, env2, tmp2, fr2, pin2⟩ := s2
      cases tmp2 with
      | @cons _ _ _ _ T3 U3 w r =>
        obtain ⟨U, m, q⟩ := env2.put (i := i) a1 w
        rw [List.set_set] at q
        exact ⟨F2, U, U3, q, r, Sbp.fr fr2 (.of_count fun a => by
          have := m.count a
          simp only [List.count_append] at this ⊢
          omega), pin2⟩
    · exact s
  · exact s
def sGzI (i : Nat) (m : MS) : MS := fun ρ => m (frzIO i ρ)
theorem tsm_gzI {i : Nat} {A : List Nat} {t : TS} {a : MS} (h : TSm k E A t a) : TSm k E A t (sGzI i a) := fun P e σ ρ vs os H D o s g => h P e σ _ vs os H D o s.frzIS g
/-! a quiet call's field -/
def qCallF (c : Nat) (g : List O → FR) (x : Str) (qs : List O → Option (List O)) : QE := fun ρ => match qs ρ with
  | none => none
  | some os => match fzs os with
    | none => none
    | some ds => match g (ds.map .fz) with
      | .ret (.ins c' fs) _ => if c' = c then match fs.lookup x with
          | some o => (toPD o).map .fz
          | none => none
        else none
      | _ => none
theorem tev_callF {c n : Nat} {g : List O → FR} {x : Str} {tl : TA} {qs : List O → Option (List O)} (hc : Cls k.K (k.cl c)) (hno : NoAttr k.K (k.cl c) x) (hn : ∀ ρ os, qs ρ = some os → os.length = n) (h : TAv k tl qs) : TEv k (tFld k.K (tCall (spM k n g) [] E tl) x) (qCallF c g x qs) := by
  intro F H σ ρ S o Q q e hq
  unfold qCallF at e
  cases e1 : qs ρ with
  | none => rw [e1] at e; cases e
  | some os =>
    rw [e1] at e
    simp only at e
    cases e2 : fzs os with
    | none => rw [e2] at e; cases e
    | some ds =>
      rw [e2] at e
      simp only at e
      refine h F H σ ρ S os _ q e1 fun ws F1 H1 x1 w1 => ?_
      have r := w1.fzs e2
      rw [List.append_nil]
      refine ⟨by rw [w1.length]; exact hn _ _ e1, F1, ds.map .fz, [], r.owns, ⟨x1.fle, .nil, (fun a m => by cases m), (fun a m => by cases m), (fun a m => by cases m), (fun a m => by cases m), Same.refl _, fun a u z => .inl (by show F1 a ≠ none; rw [z]; simp), fun _ _ z _ => z, fun _ n => n⟩, ?_⟩
      split at e
      · rename_i c' fs outs e3
        split at e
        · rename_i ec
          subst ec
          split at e
          · rename_i o' e4
            obtain ⟨d, e5, e6⟩ := Option.map_eq_some_iff.mp e
            subst e6
            rw [e3]
            intro v H' z
            obtain ⟨F', S', p1, p2⟩ := z
            cases p1 with
            | @cons _ _ _ _ T U w r2 =>
              cases w with
              | @ins a dx _ ws2 _ T2 hd hk =>
                obtain ⟨v', T3, R3, b1, b2, b3, b4⟩ := hk.take e4
                have inS : ∀ z ∈ T3, z ∈ (a :: T2) ++ U := fun z m => List.mem_append_left _ (List.mem_cons_of_mem _ (b4.subset (List.mem_append_left _ m)))
                have off : ∀ z ∈ T3, F' z = none := fun z m => p2.off z (inS z m)
                refine ⟨a, _, dx, ws2, v', rfl, hd, hc, hno, b1, hq v' (over F' H' T3) H' (x1.trans ⟨fun a u z => p2.keep a u z (by simp), p2.f0.trans (over_sub off), over_le p2.fle, fun a u z => ?_⟩) (.fz (b2.freeze off e5))⟩
                have z2 := z
                rcases over_fresh z with z | z
                · rcases p2.fnew a u z with y | y | y
                  · cases w : F1 a with
                    | none => exact absurd w y
                    | some t =>
                      have := p2.f0 a t w
                      rw [z] at this
                      exact .inl (by rw [this])
                  · cases y
                  · exact .inr y
                · rcases p2.own a (inS a z) with y | y
                  · cases y
                  · exact .inr (.inl y)
          · cases e
        · cases e
      · cases e
/-! lists of one's own things in a field -/
def nstL : O → Option (List O)
  | .lst ds => some (ds.map .fz)
  | .nst os => some os
  | _ => none
theorem Own.nstL {F H : Hp} {v : V} {o : O} {S : List Addr} {ls : List O} (w : Own k F H v o S) (e : FM.nstL o = some ls) : ∃ b us T, v = .ref b ∧ Rd H b (.lst us) ∧ Owns k F H us ls T ∧ (∀ a, (b :: T).count a ≤ S.count a) := by
  cases w with
  | @lst a vs ds h r =>
    cases e
    exact ⟨a, vs, [], rfl, h, r.owns, fun _ => Nat.le_refl _⟩
  | @nst a vs os T h r =>
    cases e
    exact ⟨a, vs, T, rfl, h, r, fun _ => Nat.le_refl _⟩
  | _ => cases e
theorem Owns.snoc {F H : Hp} {v : V} {o : O} {T : List Addr} (w : Own k F H v o T) : ∀ {us : List V} {ls : List O} {S : List Addr}, Owns k F H us ls S → Owns k F H (us ++ [v]) (ls ++ [o]) (S ++ T)
  | _, _, _, .nil => by
    have := Owns.cons w .nil
    rw [List.append_nil] at this
    exact this
  | _, _, _, .cons (S := S1) (T := S2) h r => by
    rw [List.append_assoc]
    exact .cons h (Owns.snoc w r)
theorem StW.fldApp {P : List (Nat × V)} {e : Ent} {σ : L2.St} {ρ : List O} {v : V} {o l : O} {vs : List V} {os ls : List O} {F H : Hp} {S1 S2 : List Addr} {i c : Nat} {x : Str} {fs : List (Str × O)} (s : StW k P e σ ρ (v :: vs) (o :: os) F H S1 S2) (e0 : qVar i ρ = some (.ins c fs)) (e1 : fs.lookup x = some l) (e2 : nstL l = some ls) :
    ∃ a dx ws b us, σ[i]? = some (some (.ref a)) ∧ H a = some (.ins (k.cl c) dx ws) ∧ ws.lookup x = some (.ref b) ∧ H b = some (.lst us) ∧ us.length = ls.length ∧ ∃ U S3, StW k P e σ (ρ.set i (.ins c (pfO x (.nst (ls ++ [o])) fs))) vs os F (upd H b (.lst (us ++ [v]))) U S3 := by
  obtain ⟨env, tmp, fr, pin⟩ := s
  obtain ⟨g1, g2⟩ := qVar_some e0
  obtain ⟨w, T, R, a1, a2, a3, a4⟩ := env.take g1 g2
  cases tmp with
  | @cons _ _ _ _ Tv S3 hv tmp =>
    cases a2 with
    | @ins d dx _ es _ T2 hd hk =>
      obtain ⟨w, T3, R3, k1, k2, k3, k4⟩ := hk.take e1
      obtain ⟨b, us, T4, rfl, h, r, hT⟩ := k2.nstL e2
      have fr2 : Fr e F H (b :: d :: (T4 ++ (R3 ++ (Tv ++ (R ++ S3))))) := Sbp.fr fr (.of_count fun z => by
        have c2 := a4.count_eq z
        have c3 := k4.count_eq z
        have c4 := hT z
        simp only [List.count_append, List.count_cons, List.count_nil] at c2 c3 c4 ⊢
        omega)
      have ha : H b = some (.lst us) := by
        rcases h with h | ⟨ob, h⟩
        · exact h
        · exact (fr2.nofz b List.mem_cons_self ob _ h).elim
      have nd := List.nodup_cons.mp fr2.nd
      have keep : ∀ U : List Addr, (∀ z ∈ U, z ∈ d :: (T4 ++ (R3 ++ (Tv ++ (R ++ S3))))) → At U H (upd H b (.lst (us ++ [v]))) := fun U m z mz u q => by
        rw [upd_ne (fun w => nd.1 (by rw [← w]; exact m z mz))]
        exact q
      have fw := fr2.write (a := b) (o := .lst (us ++ [v])) List.mem_cons_self (fun _ _ z => by cases z)
      have mm : ∀ z, (z ∈ T4 ∨ z ∈ R3 ∨ z ∈ Tv ∨ z ∈ R ∨ z ∈ S3) → z ∈ d :: (T4 ++ (R3 ++ (Tv ++ (R ++ S3)))) := fun z m => by
        simp only [List.mem_cons, List.mem_append]
        exact .inr m
      have env3 := a3.mono (Same.refl F) (keep R fun z m => mm z (.inr (.inr (.inr (.inl m)))))
      have tmp3 := tmp.mono (Same.refl F) (keep S3 fun z m => mm z (.inr (.inr (.inr (.inr m)))))
      have hk3 := k3.mono (Same.refl F) (keep R3 fun z m => mm z (.inr (.inl m)))
      have hr3 := r.mono (Same.refl F) (keep T4 fun z m => mm z (.inl m))
      have hv3 := hv.mono (Same.refl F) (keep Tv fun z m => mm z (.inr (.inr (.inl m))))
      have hne : d ≠ b := fun q => nd.1 (by rw [← q]; exact List.mem_cons_self)
      have len := r.length
      obtain ⟨U3, m3, q3⟩ := hk3.put (x := x) (Own.nst (k := k) (F := F) (.inl upd_same) (Owns.snoc hv3 hr3))
      rw [pfO_pfO, putF_same k1] at q3
      obtain ⟨U, mU, q⟩ := env3.put (i := i) a1 (Own.ins (k := k) (F := F) (by rw [upd_ne hne]; exact hd) q3)
      rw [List.set_set] at q
      exact ⟨d, dx, es, b, us, a1, hd, k1, ha, len, U, S3, q, tmp3, Sbp.fr fw (.of_count fun z => by
        have h1 := mU.count z
        have h2 := m3 z
        simp only [List.count_append, List.count_cons, List.count_nil] at h1 h2 ⊢
        omega), pin⟩
theorem StW.fldNst {P : List (Nat × V)} {e : Ent} {σ : L2.St} {ρ : List O} {l : O} {vs : List V} {os ls : List O} {F H : Hp} {S1 S2 : List Addr} {i c : Nat} {x : Str} {fs : List (Str × O)} (s : StW k P e σ ρ vs os F H S1 S2) (e0 : qVar i ρ = some (.ins c fs)) (e1 : fs.lookup x = some l) (e2 : nstL l = some ls) :
    ∃ a dx ws b us, σ[i]? = some (some (.ref a)) ∧ H a = some (.ins (k.cl c) dx ws) ∧ ws.lookup x = some (.ref b) ∧ Rd H b (.lst us) := by
  obtain ⟨g1, g2⟩ := qVar_some e0
  obtain ⟨w, T, R, a1, a2, a3, a4⟩ := s.env.take g1 g2
  cases a2 with
  | @ins d dx _ es _ T2 hd hk =>
    obtain ⟨w, T3, R3, k1, k2, k3, k4⟩ := hk.take e1
    obtain ⟨b, us, T4, rfl, h, r, hT⟩ := k2.nstL e2
    exact ⟨d, dx, es, b, us, a1, hd, k1, h⟩
def mAppF (c i : Nat) (x : Str) (q : QE) : M O := fun ρ => match qVar i ρ with
  | some (.ins c' fs) => if c' = c then match fs.lookup x with
      | some l => match nstL l with
        | some ls => match q ρ with
          | some o => if ls.length < sizeLine then .ok (.fz .none) (ρ.set i (.ins c (pfO x (.nst (ls ++ [o])) fs))) else .bad
          | none => .bad
        | none => .bad
      | none => .bad
    else .bad
  | _ => .bad
theorem tem_appF {c i : Nat} {x : Str} {te : TE} {q : QE} (hc : Cls k.K (k.cl c)) (hn : NoAttr k.K (k.cl c) x) (h : TEn k te q) : TEm k E (tBM k.K "list" rAppend (tFld k.K (tVar i) x) (tCons te tNil)) (mAppF c i x q) := by
  intro P e σ ρ vs os H Q s g
  unfold mAppF at g
  split at g
  · rename_i c' fs e0
    split at g
    · rename_i ec
      subst ec
      split at g
      · rename_i l e1
        split at g
        · rename_i ls e2
          split at g
          · rename_i o e3
            split at g
            · rename_i hz
              obtain ⟨F, S1, S2, s⟩ := s
              obtain ⟨a, dx, ws, b, us, a1, a2, a3, a4⟩ := s.fldNst e0 e1 e2
              refine ⟨.ref a, a1, a, _, dx, ws, .ref b, rfl, a2, hc, hn, a3, .inl ⟨rfl, us, .inl a4⟩, h F H σ ρ S1 o _ s.qs e3 fun v F1 H1 T x1 w1 f1 => ?_⟩
              have s2 := s.push x1 w1 f1
              obtain ⟨a', dx', ws', b', us', c1, c2, c3, c4, c5, U, S3, c6⟩ := s2.fldApp (x := x) e0 e1 e2
              rw [a1] at c1
              cases c1
              have hd := x1.ex _ _ a2
              rw [hd] at c2
              cases c2
              rw [a3] at c3
              cases c3
              exact ⟨b, us', v, rfl, rfl, c4, by rw [c5]; exact hz, g .non _ ⟨F1, U, [] ++ S3, c6.env, .cons (.fz .non) c6.tmp, c6.fr, c6.pin⟩⟩
            · exact g.elim
          · exact g.elim
        · exact g.elim
      · exact g.elim
    · exact g.elim
  · exact g.elim
theorem Owns.takeAt {F H : Hp} : ∀ {us : List V} {ls : List O} {S : List Addr} {j : Nat} {o : O}, Owns k F H us ls S → ls[j]? = some o → ∃ v T R, us[j]? = some v ∧ Own k F H v o T ∧ Owns k F H us (ls.set j .dead) R ∧ (T ++ R).Perm S
  | _, _, _, _, _, .nil, e => by simp at e
  | _, _, _, 0, _, .cons (S := S1) (T := S2) h r, e => by
    have e' := Option.some.inj (by simpa using e)
    subst e'
    exact ⟨_, S1, S2, rfl, h, .cons (S := []) .dead r, .refl _⟩
  | _, _, _, j + 1, o, .cons (S := S1) (T := S2) h r, e => by
    obtain ⟨v, T, R, h1, h2, h3, h4⟩ := Owns.takeAt (j := j) r (by simpa using e)
    refine ⟨v, T, S1 ++ R, by simpa using h1, h2, .cons h h3, List.perm_iff_count.mpr fun a => ?_⟩
    have := h4.count_eq a
    simp only [List.count_append] at this ⊢
    omega
theorem Owns.putAt {F H : Hp} {v : V} {o : O} {T : List Addr} (w : Own k F H v o T) : ∀ {us : List V} {ls : List O} {S : List Addr} {j : Nat}, Owns k F H us ls S → us[j]? = some v → ∃ U, (∀ a, U.count a ≤ (T ++ S).count a) ∧ Owns k F H us (ls.set j o) U
  | _, _, _, _, .nil, e => by simp at e
  | _, _, _, 0, .cons (S := S1) (T := S2) h r, e => by
    have e' := Option.some.inj (by simpa using e)
    subst e'
    exact ⟨T ++ S2, fun a => by simp only [List.count_append]; omega, .cons w r⟩
  | _, _, _, j + 1, .cons (S := S1) (T := S2) h r, e => by
    obtain ⟨U, h1, h2⟩ := Owns.putAt (j := j) w r (by simpa using e)
    exact ⟨S1 ++ U, fun a => by have := h1 a; simp only [List.count_append] at this ⊢; omega, .cons h h2⟩
theorem StW.fldDic {P : List (Nat × V)} {e : Ent} {σ : L2.St} {ρ : List O} {vs : List V} {os ls : List O} {F H : Hp} {S1 S2 : List Addr} {i c j : Nat} {x : Str} {fs : List (Str × O)} {ds : List (Key × PD)} (s : StW k P e σ ρ vs os F H S1 S2) (e0 : qVar i ρ = some (.ins c fs)) (e1 : fs.lookup x = some (.nst ls)) (e2 : ls[j]? = some (.dic ds)) :
    ∃ a dx ws b us d es, σ[i]? = some (some (.ref a)) ∧ H a = some (.ins (k.cl c) dx ws) ∧ ws.lookup x = some (.ref b) ∧ Rd H b (.lst us) ∧ us[j]? = some (.ref d) ∧ H d = some (.dK es) ∧ RepK k.K F es ds ∧
      ∀ es' ds', RepK k.K F es' ds' → ∃ U, StW k P e σ (ρ.set i (.ins c (pfO x (.nst (ls.set j (.dic ds'))) fs))) vs os F (upd H d (.dK es')) U S2 := by
  obtain ⟨env, tmp, fr, pin⟩ := s
  obtain ⟨g1, g2⟩ := qVar_some e0
  obtain ⟨w, T, R, a1, a2, a3, a4⟩ := env.take g1 g2
  cases a2 with
  | @ins p dx _ fv _ T2 hd hk =>
    obtain ⟨w, T3, R3, k1, k2, k3, k4⟩ := hk.take e1
    cases k2 with
    | @nst b us _ T4 h r =>
      obtain ⟨w, T5, R5, n1, n2, n3, n4⟩ := r.takeAt e2
      cases n2 with
      | @dic d es _ hdd rd =>
        have fr2 : Fr e F H (d :: b :: p :: (R5 ++ (R3 ++ (R ++ S2)))) := Sbp.fr fr (.of_count fun z => by
          have c2 := a4.count_eq z
          have c3 := k4.count_eq z
          have c4 := n4.count_eq z
          simp only [List.count_append, List.count_cons, List.count_nil] at c2 c3 c4 ⊢
          omega)
        have ha : H d = some (.dK es) := by
          rcases hdd with h | ⟨ob, h⟩
          · exact h
          · exact (fr2.nofz d List.mem_cons_self ob _ h).elim
        refine ⟨p, dx, fv, b, us, d, es, a1, hd, k1, h, n1, ha, rd, fun es' ds' r' => ?_⟩
        have nd := List.nodup_cons.mp fr2.nd
        have keep : ∀ U : List Addr, (∀ z ∈ U, z ∈ b :: p :: (R5 ++ (R3 ++ (R ++ S2)))) → At U H (upd H d (.dK es')) := fun U m z mz u q => by
          rw [upd_ne (fun w => nd.1 (by rw [← w]; exact m z mz))]
          exact q
        have fw := fr2.write (a := d) (o := .dK es') List.mem_cons_self (fun _ _ z => by cases z)
        have mm : ∀ z, (z ∈ R5 ∨ z ∈ R3 ∨ z ∈ R ∨ z ∈ S2) → z ∈ b :: p :: (R5 ++ (R3 ++ (R ++ S2))) := fun z m => by
          simp only [List.mem_cons, List.mem_append]
          exact .inr (.inr m)
        have env3 := a3.mono (Same.refl F) (keep R fun z m => mm z (.inr (.inr (.inl m))))
        have tmp3 := tmp.mono (Same.refl F) (keep S2 fun z m => mm z (.inr (.inr (.inr m))))
        have hk3 := k3.mono (Same.refl F) (keep R3 fun z m => mm z (.inr (.inl m)))
        have hr3 := n3.mono (Same.refl F) (keep R5 fun z m => mm z (.inl m))
        have hne : p ≠ d := fun q => nd.1 (by rw [← q]; simp)
        have hnb : b ≠ d := fun q => nd.1 (by rw [← q]; simp)
        have hb2 : Rd (upd H d (.dK es')) b (.lst us) := by
          rcases h with h | ⟨ob, h⟩
          · exact .inl (by rw [upd_ne hnb]; exact h)
          · exact .inr ⟨ob, by rw [upd_ne hnb]; exact h⟩
        obtain ⟨U5, m5, q5⟩ := hr3.putAt (j := j) (Own.dic (k := k) (F := F) (.inl upd_same) r') n1
        rw [List.set_set] at q5
        obtain ⟨U3, m3, q3⟩ := hk3.put (x := x) (Own.nst (k := k) (F := F) hb2 q5)
        rw [pfO_pfO, putF_same k1] at q3
        obtain ⟨U, mU, q⟩ := env3.put (i := i) a1 (Own.ins (k := k) (F := F) (by rw [upd_ne hne]; exact hd) q3)
        rw [List.set_set] at q
        exact ⟨U, q, tmp3, Sbp.fr fw (.of_count fun z => by
          have h1 := mU.count z
          have h2 := m3 z
          have h3 := m5 z
          simp only [List.count_append, List.count_cons, List.count_nil] at h1 h2 h3 ⊢
          omega), pin⟩
/-- self.f[a][b] = d -/
def sSetN (c i : Nat) (x : Str) (qa qb : QE) (m : M O) : MS := fun ρ => match m ρ with
  | .ok (.fz d) ρ1 => match qVar i ρ1 with
    | some (.ins c' fs) => if c' = c then match fs.lookup x with
        | some (.nst ls) => match qa ρ1 with
          | some (.fz (.int j)) => match qb ρ1 with
            | some y => match keyO y with
              | some z => if 0 ≤ j then match ls[j.toNat]? with
                  | some (.dic ds) => if ds.length < sizeLine then .next (ρ1.set i (.ins c (pfO x (.nst (ls.set j.toNat (.dic (putD ds z d)))) fs))) else .bad
                  | _ => .bad
                else .bad
              | none => .bad
            | none => .bad
          | _ => .bad
        | _ => .bad
      else .bad
    | _ => .bad
  | .ok _ _ => .bad
  | .exc x ρ1 => .exc x ρ1
  | .bad => .bad
theorem tsm_setN {c i : Nat} {x : Str} {te ta tb : TE} {m : M O} {qa qb : QE} (hc : Cls k.K (k.cl c)) (hn : NoAttr k.K (k.cl c) x) (h : TEm k E te m) (ha : TEv k ta qa) (hb : TEv k tb qb) : TSm k E [] (tAsg te (gSub (tOp (rIxU k.K) (tFld k.K (tVar i) x) ta) tb rSetU)) (sSetN c i x qa qb m) := by
  intro P e σ ρ vs os H D o st g
  refine h P e σ ρ vs os H _ st ?_
  unfold sSetN at g
  cases e1 : m ρ with
  | exc x ρ1 => rw [e1] at g; exact g.exc
  | bad => rw [e1] at g; exact g
  | ok w ρ1 =>
    rw [e1] at g
    intro v H1 s1
    cases w with
    | fz d =>
      simp only at g
      obtain ⟨F, S1, S2, s1⟩ := s1
      split at g
      · rename_i c' fs e2
        split at g
        · rename_i ec
          subst ec
          split at g
          · rename_i ls e3
            split at g
            · rename_i j e4
              split at g
              · rename_i y e5
                split at g
                · rename_i z e6
                  split at g
                  · rename_i hj
                    split at g
                    · rename_i ds e7
                      split at g
                      · rename_i hz
                        obtain ⟨a, dx, ws, b, us, dd, es, a1, a2, a3, a4, a5, a6, a7, a8⟩ := s1.fldDic e2 e3 e7
                        refine ⟨.ref a, a1, a, _, dx, ws, .ref b, rfl, a2, hc, hn, a3, ha F H1 σ ρ1 S1 _ _ s1.qs e4 fun u F2 H2 x2 w2 => ?_⟩
                        have ew := w2.int
                        subst ew
                        have s2 := s1.xt x2
                        refine .inl (.inl ⟨b, us, j, .ref dd, rfl, rfl, .inl (rd_sub x2.ex a4), by rw [atI_nn hj]; exact a5, hb F2 H2 σ ρ1 S1 _ _ s2.qs e5 fun u3 F3 H3 x3 w3 => ?_⟩)
                        have s3 := s2.xt x3
                        obtain ⟨a', dx', ws', b', us', dd', es', b1, b2, b3, b4, b5, b6, b7, b8⟩ := s3.fldDic e2 e3 e7
                        rw [a1] at b1
                        cases b1
                        have hd := x3.ex _ _ (x2.ex _ _ a2)
                        rw [hd] at b2
                        cases b2
                        rw [a3] at b3
                        cases b3
                        have hu : us' = us := by
                          have r4 := rd_sub x3.ex (rd_sub x2.ex a4)
                          rcases r4 with q | ⟨_, q⟩ <;> rcases b4 with p | ⟨_, p⟩ <;> (rw [q] at p; cases p; try rfl)
                        rw [hu, a5] at b5
                        cases b5
                        have rd := s3.top.1
                        have ew := w3.keyO e6
                        subst ew
                        refine .inr ⟨dd, _, rfl, DPut.k b6 (by rw [b7.len']; exact hz), ?_⟩
                        obtain ⟨U, s5⟩ := b8 _ _ (b7.put rd)
                        obtain ⟨_, s6⟩ := s5.top
                        exact g σ _ ⟨F3, U, S2, s6⟩
                      · exact g.elim
                    · exact g.elim
                  · exact g.elim
                · exact g.elim
              · exact g.elim
            · exact g.elim
          · exact g.elim
        · exact g.elim
      · exact g.elim
    | _ => exact g.elim
end
end FM
namespace FM
open PySem PySem.Spec L2 PyProof.Rows
/-! ### sorted(set(xs)) of a list of ints -/
section
variable {P : Program} {w : World} {A : Around} {E : Value → Shared → Prop} {s : Shared}
abbrev emS (w : World) : Obj := { cls := .type "set", dict := none, data := .set #[] 0 (.fresh 0 0 (!w.params.followText "set-order")) }
theorem set_of_list {a : Addr} {xs : Array Value} (ks : List Int) {Q : Value → Shared → Prop} (z0 : A.handled = none) (al : s.heap.IsList a xs) (ai : IntsAre xs.toList ks) (ab : ks.length + 1 < scanBound)
    (go : ∀ (hp : Heap) (tk c : Nat), SetR w hp s.heap.objs.size (fun j => decide (j ∈ ks)) c → c ≤ ks.length → (∀ b o, s.heap.get? b = some o → hp.get? b = some o) → Q (.ref s.heap.objs.size) { s with heap := hp, toks := tk }) :
    wpAny (model P w) A (call (.type "set") [.ref a]) Q E s := by
  have sz : xs.size = ks.length := by
    have e := ai.length
    rwa [Array.length_toList] at e
  obtain ⟨c0, tl0, mro0⟩ := F.called_set.mro
  have made0 := F.called_set.made; have sub0 := F.called_set.sub
  refine wpAny_call (codeAny_of_tree ?_)
  show wpAny _ _ (callAny (.type "set") _) _ _ _
  refine wpAny_pure ⟨Code.quiet_builtin _ (by decide +kernel), codeAny_builtin F.entry_type_call ?_⟩
  rw [Around.under_plain (weight_type_call_type "set" [.ref a] []) rfl]
  have n1 := F.called_set.notType; have n2 := F.called_set.canCreate; have n3 := F.typeCall_set_1 (.ref a)
  repeat (any_goals (first | assumption | wp_step))

  refine codeAny_mono (code_set_led1 (.ref a) (E := E) (Q₁ := fun ob t => ob = .ref s.heap.objs.size ∧ t = { s with heap := s.heap.push { cls := .type "set", dict := none, data := .set #[] 0 (.fresh 0 0 (!w.params.followText "set-order")) } }) ⟨rfl, rfl⟩) fun r t hr => ?_
  cases r with
  | error e => exact hr
  | ok fl =>
    cases fl with
    | ret ob =>
      obtain ⟨rfl, rfl⟩ := hr
      have gS : (s.heap.push { cls := .type "set", dict := none, data := .set #[] 0 (.fresh 0 0 (!w.params.followText "set-order")) }).get? s.heap.objs.size = some { cls := .type "set", dict := none, data := .set #[] 0 (.fresh 0 0 (!w.params.followText "set-order")) } := Heap.get?_push_size _ rfl
      have tS : Shared.TypeIs { s with heap := s.heap.push { cls := .type "set", dict := none, data := .set #[] 0 (.fresh 0 0 (!w.params.followText "set-order")) } } (.ref s.heap.objs.size) "set" := ⟨_, gS, rfl⟩
      have i1 := F.called_set.init.lookup; have i2 := F.called_set.init.bind (.ref s.heap.objs.size)
      repeat (any_goals (first | assumption | wp_step))

      refine codeAny_mono (codeAny_call_builtin (R := wants (fun r t => r = .none ∧ ∃ hp tk c, t = { s with heap := hp, toks := tk } ∧ SetR w hp s.heap.objs.size (fun j => decide (j ∈ ks)) c ∧ c ≤ ks.length ∧ (∀ b o, s.heap.get? b = some o → hp.get? b = some o)) E)
        F.called_set.init.plain F.entry_set_init (check_set_init_1 tS ?_)) fun r3 t3 hr3 => ?_
      · obtain ⟨ol, g0, ec, nl, ed⟩ := al
        obtain ⟨k1, k2, k3, k4⟩ := ol
        simp only at ec ed
        subst ec; subst ed
        have g1 : (s.heap.push { cls := .type "set", dict := none, data := .set #[] 0 (.fresh 0 0 (!w.params.followText "set-order")) }).get? a = some { cls := .type "list", dict := k2, data := .seq xs nl, slots := k4 } := Heap.get?_push_of_some _ g0
        have u1 := F.sub_list_set; have u2 := F.sub_list_frozenset
        have u3 : (Value.type "list" == Value.type "dict") = false := by decide
        have al1 : (s.heap.push { cls := .type "set", dict := none, data := .set #[] 0 (.fresh 0 0 (!w.params.followText "set-order")) }).IsList a xs := ⟨_, g1, rfl, nl, rfl⟩
        unfold Builtin.«set.__init__» noKeywords Builtin.Frozenset.updateFrom
        generalize hPI : pyIter = PI
        wp_walk
        subst hPI

        refine wpAny_pyIter_list al1 (wpAny_bind (wpAny_runValue ?_))
        have lt : a < s.heap.objs.size := Heap.lt_size g0
        have z3 : A.in1.in1.in1.handled = none := by simp [z0]
        have ne1 : a ≠ (s.heap.push { cls := .type "set", dict := none, data := .set #[] 0 (.fresh 0 0 (!w.params.followText "set-order")) }).objs.size := by
          rw [Heap.size_push]; exact Nat.ne_of_lt (Nat.lt_succ_of_lt lt)
        have off : s.heap.objs.size ∉ [(s.heap.push { cls := .type "set", dict := none, data := .set #[] 0 (.fresh 0 0 (!w.params.followText "set-order")) }).objs.size, a] := by
          rw [Heap.size_push]
          intro m
          rcases List.mem_cons.mp m with e | m
          · exact absurd e (Nat.ne_of_lt (Nat.lt_succ_self _))
          · exact absurd (List.mem_singleton.mp m) (Nat.ne_of_gt lt)
        have val : ∀ (i : Nat) (v : Value), xs[i]? = some v → ∃ k t, ks[i]? = some k ∧ v = .int k t := fun i v e => by
          have hi : i < ks.length := by rw [← sz]; exact (Array.getElem?_eq_some_iff.mp e).1
          obtain ⟨t, e2⟩ := PyProof.Rows.IntsAre.int_at ai i v (by rw [Array.getElem?_toList]; exact e)
          exact ⟨ks[i], t, List.getElem?_eq_getElem hi, by rw [e2, List.getD_eq_getElem?_getD, List.getElem?_eq_getElem hi] <;> rfl⟩
        refine set_update_ints ((Walks.list z3 _ a ne1 xs).toS) s.heap.objs.size off ks sz ab val (xs.size - 0) 0 _ (by omega) (Nat.zero_le _) ⟨⟨_, Heap.get?_push_size _ rfl, rfl, rfl⟩, (al1.push _)⟩ ⟨0, Nat.le_refl 0, setR_new_at (Heap.get?_push_of_some _ gS)⟩ ?_
        intro t c mv hc R
        obtain ⟨hp, gg, dd, tk, oo⟩ := t
        have e1 : gg = s.gens := mv.gens
        have e2 : dd = s.drawn := mv.drawn
        have e3 : oo = s.os := mv.os
        subst e1; subst e2; subst e3
        show wpAny _ _ _ _ _ _
        refine wpAny_pure ?_
        show wpAny _ _ (ret Value.none) _ _ _
        rw [sz] at hc
        refine wpAny_pure ⟨rfl, hp, tk, c, rfl, R, hc, fun b o e => ?_⟩
        have b0 : b < s.heap.objs.size := Heap.lt_size e
        refine mv.heap b o (fun m => ?_) (Heap.get?_push_of_some _ (Heap.get?_push_of_some _ e))
        rw [Heap.size_push] at m
        rcases List.mem_cons.mp m with q | m
        · exact absurd q (Nat.ne_of_lt b0)
        · exact absurd (List.mem_singleton.mp m) (Nat.ne_of_lt (Nat.lt_succ_of_lt b0))
      · cases r3 with
        | error e => exact hr3
        | ok fl3 =>
          cases fl3 with
          | ret r =>
            obtain ⟨rfl, hp, tk, c, rfl, R, hc, kk⟩ := hr3
            repeat (any_goals (first | assumption | wp_step))
            exact go _ _ _ R hc kk
          | _ => exact hr3.elim
    | _ => exact hr.elim
end
section
variable {X : Cx}
/-- set(xs), xs a list of ints -/
def rSetI (w : World) (K : Frag) : List V → Hp → VK → Prop := fun vs H Q => ∃ (l : Addr) (ns : List Int), vs = [V.ref l] ∧ SqL K H l (ns.map V.int) ∧ ns.length ≤ 1000 ∧ ∀ p c, H p = none → c ≤ ns.length → Q (.ref p) (upd H p (SetO w p (fun j => decide (j ∈ ns)) c))
theorem cr_setI (hc : X.calm = true) : CallR X (.type "set") (rSetI X.w X.K) := by
  intro pins s σ H vs us Q I r h
  obtain ⟨l, ns, rfl, hq, hn, q⟩ := h
  obtain ⟨its, rv, pl, hz⟩ := I.list hq
  rw [Vals.ref1 r]
  refine set_of_list ns (I.ok.hd hc) pl.isList (by simpa using rv.ints) (by unfold scanBound; omega) fun hp tk c R hcn kk => ?_
  exact ⟨.ref _, _, I.laid (t' := tk) kk (Nat.le_refl _) (setO_new R), rfl, q _ _ (I.hok.fresh (Nat.le_refl _)) hcn⟩
def tSortSet (w : World) (K : Frag) (ta : TA) : TE := tCB (fun vs H Q => rSetI w K vs H Q) ta
end
end FM
namespace FM
open PySem PySem.Spec L2 PyProof.Rows
/-! ### sorted(d) of a dict with ints as keys, any number -/
def rSortDU : List V → Hp → VK → Prop := fun vs H Q => ∃ (a : Addr) (ks : List Int), vs = [.ref a] ∧ ((∃ kvs : List (Key × V), Rd H a (.dK kvs) ∧ kvs.map (·.1) = ks.map Sum.inl) ∨ (Rd H a (.dT []) ∧ ks = [])) ∧
    ∀ (ys : List Int) (p : Addr), ys.Perm ks → ys.Pairwise (· ≤ ·) → H p = none → Q (.ref p) (upd H p (.lst (ys.map V.int)))
section
variable {X : Cx}
theorem cr_sortDU (hcalm : X.calm = true) : CallR X (.builtin "sorted") rSortDU := by
  intro pins s σ H vs us Q I r q
  obtain ⟨a, ks, rfl, hd, q⟩ := q
  obtain ⟨u, eu, rx⟩ := vals1 r
  subst eu
  cases rx
  obtain ⟨lo, ws, hkeys, hw, dd⟩ : (a == sysModules) = false ∧ ∃ ws, ws.map (·.1) = ks.map Sum.inl ∧ ws.length ≤ sizeLine ∧ s.heap.DictOf (mixKind X.prog X.w) a ws := by
    rcases hd with ⟨kvs, hd, hks⟩ | ⟨hd, hk⟩
    · obtain ⟨z, lo, ws, rel, dd⟩ := dk_rd I.hok hd
      exact ⟨lo, ws, rel.keys.symm.trans hks, by rw [← rel.length]; exact z, dd⟩
    · subst hk
      obtain ⟨z, y, xs, rr, o, es, ep, h1, h2, h3, h4, h5⟩ := (show ObjOk X.prog X.w H s.heap a (.dT []) from rd_of I.hok hd)
      cases rr
      refine ⟨y, [], rfl, Nat.zero_le _, o, es, ep, h1, h2, h3, ?_, ?_, .nil⟩
      · have : es = #[] := by
          apply Array.ext'
          simpa using h4
        subst this
        intro e m
        simp at m
      · have : es.toList = [] := by simpa using h4
        rw [this]
        exact .nil
  obtain ⟨ep, at0⟩ := dd.dictAt
  have el : ws.length = ks.length := by
    have e := congrArg List.length hkeys
    rwa [List.length_map, List.length_map] at e
  refine Calls.call_function_entry PyProof.Rows.kind_sorted PyProof.Rows.plain_sorted PyProof.Rows.entry_sorted (PyProof.Rows.args_sorted1 _) ?_
  unfold Builtin.«sorted»
  refine wpAny_bind (m := checkCount "sorted" 1 1 _) (wpAny_pure (wpAny_bind (PySem.W.kdu_collect (A := X.A.in1) (PySem.W.kdl_dict (knd := mixKind X.prog X.w) (kvs := ws) (ep := ep) lo) (I.ok.hd hcalm) at0 hw fun hp tk acc kk ha => ?_)))
  have al : acc.toList.length = ks.length := by rw [Array.length_toList, ha.1, el]
  have ai : IntsAre acc.toList ks := ints_each al fun j v e => by
    obtain ⟨k, x, e1, e2⟩ := ha.2 j v (by rw [← Array.getElem?_toList]; exact e)
    have e3 : (ws.map (·.1))[j]? = some k := by rw [List.getElem?_map, e1]; rfl
    rw [hkeys, List.getElem?_map] at e3
    obtain ⟨y, e4, e5⟩ := Option.map_eq_some_iff.mp e3
    subst e5
    rcases keyIs_shape (show keyIs (Sum.inl y) v = true from e2) with ⟨i, t, ek, ev⟩ | ⟨z, t, ek, ev⟩
    · cases ek
      exact ⟨y, t, e4, ev⟩
    · cases ek
  have hz : acc.toList.length ≤ sizeLine := by rw [al, ← el]; exact hw
  have J : Inv X pins σ H { s with heap := hp, toks := tk } := I.kept kk
  refine wpAny_bind (wpAny_newList ?_ hz)
  have oL : (hp.push (seqObj "list" acc.toList.toArray 0)).get? hp.objs.size = some (seqObj "list" acc.toList.toArray 0) := Heap.get?_push_size _ rfl
  show wpAny _ _ _ _ _ { s with heap := hp.push (seqObj "list" acc.toList.toArray 0), toks := tk }
  refine wpAny_bind (wpAny_holding (wpAny_call_entry PyProof.Rows.slot_list_sort ⟨_, oL, rfl⟩ PyProof.Rows.entry_list_sort
    (SrtO.list_sort_ord (s := { s with heap := hp.push (seqObj "list" acc.toList.toArray 0), toks := tk }) SrtO.swo_int oL hz (fun h2 => SrtO.ints_sortable ai h2) fun out h1 h2 => ⟨_, rfl, ?_⟩) (PyProof.Rows.args_list_sort _)))
  obtain ⟨k1, k2, k3⟩ := SrtO.ints_out ai h1 h2
  obtain ⟨e', he'⟩ := PyProof.Rows.sortedHeap_at (vs := acc.toList) (out := out.toArray) oL
  have hlen : ((out.map SrtO.iv).map V.int).length ≤ sizeLine := by
    rw [List.length_map, k2.length_eq, ← al]
    exact hz
  refine wpAny_pure ⟨_, rfl, .ref hp.objs.size, upd H hp.objs.size (.lst ((out.map SrtO.iv).map V.int)), J.laid (t' := tk) (fun b u e => ?_) (Nat.le_refl _) ⟨hlen, out, e', vals_of_ints k1, he'⟩, rfl, q _ _ k2 k3 (J.hok.fresh (Nat.le_refl _))⟩
  have hb : b < hp.objs.size := Heap.lt_size e
  rw [PyProof.Rows.sortedHeap_old (Nat.ne_of_lt hb) (by rw [size_push']; exact Nat.lt_succ_of_lt hb)]
  exact Heap.get?_push_of_some _ e
end
def intK : List (Key × PD) → Option (List Int)
  | [] => some []
  | (.inl i, _) :: r => (intK r).map (i :: ·)
  | (.inr _, _) :: _ => none
def dkI : O → Option (List Int)
  | .fz (.dict []) => some []
  | x => match dicK x with
    | some ds => intK ds
    | none => none
theorem intK_eq : ∀ {ds : List (Key × PD)} {ks : List Int}, intK ds = some ks → ds.map (·.1) = ks.map Sum.inl
  | [], ks, e => by cases e; rfl
  | (.inl i, d) :: r, ks, e => by
    obtain ⟨z, e1, e2⟩ := Option.map_eq_some_iff.mp (show (intK r).map (i :: ·) = some ks from e)
    subst e2
    rw [List.map_cons, List.map_cons, intK_eq e1]
  | (.inr _, _) :: _, _, e => by cases e
theorem RepK.keys1 {K : Frag} {F : Hp} : ∀ {vs : List (Key × V)} {ds : List (Key × PD)}, RepK K F vs ds → vs.map (·.1) = ds.map (·.1)
  | _, _, .nil => rfl
  | _, _, .cons _ r => congrArg (_ :: ·) (RepK.keys1 r)
theorem Vw.dkI {k : Kc} {F H : Hp} {S : List Addr} {v : V} {o : O} {ks : List Int} (h : Vw k F H S v o) (s : FLe F H) (e : FM.dkI o = some ks) : ∃ a, v = .ref a ∧ ((∃ kvs : List (Key × V), Rd H a (.dK kvs) ∧ kvs.map (·.1) = ks.map Sum.inl) ∨ (Rd H a (.dT []) ∧ ks = [])) := by
  unfold FM.dkI at e
  split at e
  · cases e
    obtain ⟨T, _, q⟩ := h
    cases q with
    | fz r =>
      cases r with
      | @dic a kvs ds _ h1 h2 h3 =>
        have h3 := PyData.dict.inj h3
        cases ds with
        | nil =>
          cases h2
          exact ⟨_, rfl, .inl ⟨[], rd_le s h1, rfl⟩⟩
        | cons p r => cases h3
      | @dit a kvs ds _ h1 h2 h3 =>
        have h3 := PyData.dict.inj h3
        cases ds with
        | nil =>
          cases h2
          exact ⟨_, rfl, .inr ⟨rd_le s h1, rfl⟩⟩
        | cons p r => cases h3
  · split at e
    · rename_i ds e1
      obtain ⟨a, vs, rfl, h1, h2⟩ := h.dicK s e1
      exact ⟨a, rfl, .inl ⟨vs, h1, by rw [h2.keys1]; exact intK_eq e⟩⟩
    · cases e
def rSortedV (K : Frag) : List V → Hp → VK → Prop := fun vs H Q => rSortedU K vs H Q ∨ rSortDU vs H Q
theorem cr_sortedV {X : Cx} (hc : X.calm = true) (hu : X.A.units + 64 < cLine) : CallR X (.builtin "sorted") (rSortedV X.K) := by
  intro pins s σ H vs us Q I r h
  rcases h with h | h
  · exact cr_sortedU hu pins s σ H vs us Q I r h
  · exact cr_sortDU hc pins s σ H vs us Q I r h
def oSortV : List O → Option O
  | [x] => match oSortU [x] with
    | some o => some o
    | none => match dkI x with
      | some ks => some (.lst ((sortI ks).map .int))
      | none => none
  | _ => none
theorem cn_sortV {k : Kc} : CbN k (rSortedV k.K) oSortV := by
  intro F H S xs os o Q f off th ws e h
  unfold oSortV at e
  split at e
  · split at e
    · rename_i z e1
      cases e
      exact .inl (cn_sortU F H S xs _ o Q f off th ws e1 h)
    · cases ws with
      | cons w ws =>
        cases ws
        split at e
        · rename_i ks e2
          cases e
          obtain ⟨a, rfl, g⟩ := w.dkI f e2
          refine .inr ⟨a, ks, rfl, g, fun ys p hp hs hn => ?_⟩
          rw [sorted_unique (hp.trans (sortI_perm ks).symm) hs (sortI_sorted ks)]
          exact own_list f (ints_reps (sortI ks)) h p hn
        · cases e
  · cases e
theorem oSortV_eq {x : O} : oSortV [x] = match oSortU [x] with
    | some o => some o
    | none => match dkI x with
      | some ks => some (.lst ((sortI ks).map .int))
      | none => none := rfl
theorem oSortV_U {x : O} {o : O} (e : oSortU [x] = some o) : oSortV [x] = some o := by
  rw [oSortV_eq, e]
/-! ### sorted(set(xs)) -/
def nubI : List Int → List Int
  | [] => []
  | n :: r => if n ∈ r then nubI r else n :: nubI r
theorem nubI_mem {x : Int} : ∀ {l : List Int}, x ∈ nubI l ↔ x ∈ l
  | [] => Iff.rfl
  | n :: r => by
    unfold nubI
    split
    · rename_i h
      rw [nubI_mem, List.mem_cons]
      exact ⟨.inr, fun z => z.elim (fun e => e ▸ h) id⟩
    · rw [List.mem_cons, List.mem_cons, nubI_mem]
theorem nubI_nodup : ∀ {l : List Int}, (nubI l).Nodup
  | [] => .nil
  | n :: r => by
    unfold nubI
    split
    · exact nubI_nodup
    · rename_i h
      exact List.nodup_cons.mpr ⟨fun m => h (nubI_mem.mp m), nubI_nodup⟩
def srtU (ns : List Int) : List Int := sortI (nubI ns)
theorem perm_of_mem : ∀ {l r : List Int}, l.Nodup → r.Nodup → (∀ x, x ∈ l ↔ x ∈ r) → l.Perm r
  | [], r, _, _, h => by
    cases r with
    | nil => exact .refl _
    | cons b r => exact absurd ((h b).mpr List.mem_cons_self) (by simp)
  | a :: l, r, h1, h2, h => by
    have ma : a ∈ r := (h a).mp List.mem_cons_self
    have n1 := List.nodup_cons.mp h1
    refine (List.Perm.cons a (perm_of_mem n1.2 (h2.erase a) fun x => ?_)).trans (List.perm_cons_erase ma).symm
    rw [h2.mem_erase_iff]
    constructor
    · intro m
      exact ⟨fun e => n1.1 (e ▸ m), (h x).mp (List.mem_cons_of_mem _ m)⟩
    · rintro ⟨ne, m⟩
      rcases List.mem_cons.mp ((h x).mpr m) with e | m
      · exact absurd e ne
      · exact m
theorem srtU_is {ns xs : List Int} (h1 : xs.Pairwise (· < ·)) (h2 : ∀ k, k ∈ xs ↔ k ∈ ns) : xs = srtU ns := by
  have nd : xs.Nodup := h1.imp fun h e => by omega
  refine sorted_unique ((perm_of_mem nd nubI_nodup fun x => (h2 x).trans nubI_mem.symm).trans (sortI_perm _).symm) (h1.imp fun h => by omega) (sortI_sorted _)
def qSortSet (q : QE) : QE := fun ρ => match q ρ with
  | none => none
  | some x => match seqL x with
    | some ds => match intsD ds with
      | some ns => if ns.length < 64 then some (.lst ((srtU ns).map .int)) else none
      | none => none
    | none => none
theorem ten_sortSet {k : Kc} {w : World} {te : TE} {q : QE} (h : TEv k te q) : TEn k (tCB (rSortedSet w) (tCons (tCB (rSetI w k.K) (tCons te tNil)) tNil)) (qSortSet q) := by
  intro F H σ ρ S o Q qs e g
  unfold qSortSet at e
  cases e1 : q ρ with
  | none => rw [e1] at e; cases e
  | some x =>
    rw [e1] at e
    simp only at e
    split at e
    · rename_i ds es
      split at e
      · rename_i ns en
        split at e
        · rename_i hz
          cases e
          refine h F H σ ρ S x _ qs e1 fun v F1 H1 x1 w1 => ?_
          obtain ⟨a, vs, rfl, g1, g2⟩ := w1.seqL x1.fle es
          have e3 := intsD_eq en
          subst e3
          rw [reps_ints g2] at g1
          refine ⟨a, ns, rfl, g1, by omega, fun p c hp hc => ?_⟩
          have x2 : Xt F1 H1 F1 (upd H1 p (SetO w p (fun j => decide (j ∈ ns)) c)) := Xt.own x1.fle hp
          refine ⟨p, _, c, rfl, upd_same, by omega, fun xs p2 hs hm hl hn => ?_⟩
          have ex : xs = srtU ns := srtU_is hs fun k => by simpa using hm k
          subst ex
          refine own_list x2.fle (ints_reps (srtU ns)) (fun v F' H' T x3 w3 f3 => g v F' H' T ((x1.trans x2).trans x3) w3 (f3.back (x1.trans x2))) p2 hn
        · cases e
      · cases e
    · cases e
end FM
namespace FM
open PySem PySem.Spec L2 PyProof.Rows
/-! ### simp words for instances -/
section
variable {ρ : List O} {Q : O → List O → Prop} {nx bk ct : List O → Prop} {rt : O → List O → Prop} {q : QE} {m : M O} {a : MS} {ml : M (List O)} {c i : Nat} {x : Str}
@[simp] theorem qFld_eq : qFld c i x ρ = match qVar i ρ with
    | some (.ins c' fs) => if c' = c then match fs.lookup x with
        | some .dead => none
        | r => r
      else none
    | _ => none := rfl
@[simp] theorem wM_meth {f : List O → FR} {nm : Str} {as : List (Option Nat)} : wM (mMeth c i nm f as ml ρ) Q = ∃ fs, qVar i ρ = some (.ins c fs) ∧ fs.lookup nm = none ∧ wM (mCall f (some i :: as) (mRef i ml) ρ) Q := by
  apply propext
  unfold mMeth
  constructor
  · intro h
    split at h
    · rename_i c' fs e
      split at h
      · rename_i hc
        obtain ⟨rfl, hc⟩ := hc
        exact ⟨fs, e, hc, h⟩
      · exact h.elim
    · exact h.elim
  · rintro ⟨fs, e, h1, h⟩
    rw [e]
    show wM (if c = c ∧ List.lookup nm fs = none then mCall f (some i :: as) (mRef i ml) ρ else .bad) Q
    rw [if_pos ⟨rfl, h1⟩]
    exact h
@[simp] theorem wM_make {f : List O → FR} : wM (mMake c f ml ρ) Q = wM (ml ρ) fun xs ρ1 => wF (f (.ins c [] :: xs)) fun o outs => o = .fz .none ∧ ∃ o1 r, outs = o1 :: r ∧ Q o1 ρ1 := by
  unfold mMake
  cases e : ml ρ with
  | ok xs ρ1 =>
    simp only [wM_ok]
    cases e2 : f (.ins c [] :: xs) with
    | ret o outs =>
      cases o with
      | fz d =>
        cases d with
        | none => cases outs <;> simp [wM, wF]
        | _ => simp [wM, wF]
      | _ => simp [wM, wF]
    | _ => simp [wM, wF]
  | _ => rfl
@[simp] theorem wM_mtF {f : List PD → List PD → Option (PD × List PD)} {qs : List O → Option (List O)} : wM (mMtF c i x f qs ρ) Q = ∃ fs, qVar i ρ = some (.ins c fs) ∧ ∃ ds, fs.lookup x = some (.lst ds) ∧ ∃ xs, qs ρ = some xs ∧ ∃ zs, fzs xs = some zs ∧ ∃ d ds', f ds zs = some (d, ds') ∧ Q (.fz d) (ρ.set i (.ins c (pfO x (.lst ds') fs))) := by
  unfold mMtF
  cases e : qVar i ρ with
  | none => simp [wM]
  | some o =>
    cases o with
    | ins c' fs =>
      by_cases h1 : c' = c
      · subst h1
        cases h2 : fs.lookup x with
        | none => simp [h2, wM]
        | some o =>
          cases o with
          | lst ds =>
            cases h3 : qs ρ with
            | none => simp [h2, wM]
            | some xs =>
              cases h4 : fzs xs with
              | none => simp [h2, h4, wM]
              | some zs =>
                cases h5 : f ds zs with
                | none => simp [h2, h4, h5, wM]
                | some r =>
                  obtain ⟨d, ds'⟩ := r
                  simp [h2, h4, h5, wM]
                  exact ⟨fun h => ⟨d, ds', ⟨rfl, rfl⟩, h⟩, fun ⟨_, _, ⟨e1, e2⟩, h⟩ => by rw [e1, e2]; exact h⟩
          | _ => simp [h2, wM]
      · simp [h1, wM]
    | _ => simp [wM]
@[simp] theorem wM_appF : wM (mAppF c i x q ρ) Q = ∃ fs, qVar i ρ = some (.ins c fs) ∧ ∃ l, fs.lookup x = some l ∧ ∃ ls, nstL l = some ls ∧ ∃ o, q ρ = some o ∧ ls.length < sizeLine ∧ Q (.fz .none) (ρ.set i (.ins c (pfO x (.nst (ls ++ [o])) fs))) := by
  unfold mAppF
  cases e : qVar i ρ with
  | none => simp [wM]
  | some o =>
    cases o with
    | ins c' fs =>
      by_cases h1 : c' = c
      · subst h1
        cases h2 : fs.lookup x with
        | none => simp [h2, wM]
        | some l =>
          cases h3 : nstL l with
          | none => simp [h2, h3, wM]
          | some ls =>
            cases h4 : q ρ with
            | none => simp [h2, h3, wM]
            | some o => by_cases h5 : ls.length < sizeLine <;> simp [h2, h3, h5, wM]
      · simp [h1, wM]
    | _ => simp [wM]
@[simp] theorem wM_fldT : wM (mFldT c x m ρ) Q = wM (m ρ) fun o ρ1 => ∃ fs, o = .ins c fs ∧ ∃ o', fs.lookup x = some o' ∧ Q o' ρ1 := by
  unfold mFldT
  cases e : m ρ with
  | ok o ρ1 =>
    cases o with
    | ins c' fs =>
      by_cases h1 : c' = c
      · subst h1
        cases h2 : fs.lookup x <;> simp [h2, wM]
      · simp [h1, wM]
    | _ => simp [wM]
  | _ => rfl
@[simp] theorem wM_frzI : wM (frzIM m ρ) Q = wM (m ρ) fun o ρ1 => ∃ c fs, o = .ins c fs ∧ ∃ fs', frzFs fs = some fs' ∧ Q (.ins c fs') ρ1 := by
  apply propext
  unfold frzIM
  cases e : m ρ with
  | ok o ρ1 =>
    cases o with
    | ins c' fs =>
      simp only [wM_ok]
      constructor
      · intro h
        cases h2 : frzFs fs with
        | none => rw [h2] at h; exact h.elim
        | some fs' => rw [h2] at h; exact ⟨c', fs, rfl, fs', h2, h⟩
      · rintro ⟨c, fs2, e2, fs', h2, h⟩
        cases e2
        rw [h2]
        exact h
    | _ => simp [wM]
  | _ => exact Iff.rfl
@[simp] theorem wS_setF : wS (sSetF c i x m ρ) nx rt bk ct = wM (m ρ) fun o ρ1 => ∃ fs, qVar i ρ1 = some (.ins c fs) ∧ fs.length < 1000 ∧ nx (ρ1.set i (.ins c (pfO x o fs))) := by
  unfold sSetF
  cases e : m ρ with
  | ok o ρ1 =>
    simp only [wM_ok]
    cases e2 : qVar i ρ1 with
    | none => simp [wS]
    | some z =>
      cases z with
      | ins c' fs =>
        by_cases h1 : c' = c
        · subst h1
          by_cases h2 : fs.length < 1000 <;> simp [h2, wS]
        · simp [h1, wS]
      | _ => simp [wS]
  | _ => rfl
@[simp] theorem wS_gzI : wS (sGzI i a ρ) nx rt bk ct = wS (a (frzIO i ρ)) nx rt bk ct := rfl
theorem wS_setN {qa qb : QE} {d : PD} {fs : List (Str × O)} {ls : List O} {j : Nat} {y : O} {z : Key} {ds : List (Key × PD)} {ρ1 : List O} (h0 : m ρ = .ok (.fz d) ρ1) (h1 : qVar i ρ1 = some (.ins c fs)) (h2 : fs.lookup x = some (.nst ls)) (h3 : qa ρ1 = some (.fz (.int (j : Int)))) (h4 : qb ρ1 = some y) (h5 : keyO y = some z) (h6 : ls[j]? = some (.dic ds)) (h7 : ds.length < sizeLine)
    (g : nx (ρ1.set i (.ins c (pfO x (.nst (ls.set j (.dic (putD ds z d)))) fs)))) : wS (sSetN c i x qa qb m ρ) nx rt bk ct := by
  unfold sSetN
  simp [h0, h1, h2, h3, h4, h5, h6, h7]
  exact g
end
@[simp] theorem frzFs_nil : frzFs [] = some [] := rfl
theorem qSortSet_i {q : QE} {ρ : List O} {ns : List Int} (e : q ρ = some (.fz (.list (ns.map .int)))) (h : ns.length < 64) : qSortSet q ρ = some (.lst ((srtU ns).map .int)) := by
  have e2 : intsD (ns.map PyData.int) = some ns := intsD_map ns
  unfold qSortSet
  rw [e]
  simp only [seqL]
  rw [e2]
  simp only
  rw [if_pos h]
theorem oSortV_i {ns : List Int} : oSortV [.fz (.list (ns.map .int))] = some (.lst ((sortI ns).map .int)) := by
  have e2 : intsD (ns.map PyData.int) = some ns := intsD_map ns
  apply oSortV_U
  show (match intsD (ns.map PyData.int) with
    | some ns => some (O.lst ((sortI ns).map .int))
    | none => if sortC (ns.map PyData.int) then some (O.lst (sortD (ns.map PyData.int))) else none) = _
  rw [e2]
theorem oSortV_d {ks : List Int} {x : O} (e1 : oSortU [x] = none) (e2 : dkI x = some ks) : oSortV [x] = some (.lst ((sortI ks).map .int)) := by
  rw [oSortV_eq, e1]
  simp only
  rw [e2]
/-! ### walks of ints: what is kept -/
theorem lcGo_ints {f : QG} {c : List O → Option Bool} {e : QE} {ρ : List O} {p : Int → Bool} {ns : List Int} (h : ∀ n ∈ ns, ∃ ρ1, f (.int n) ρ = some ρ1 ∧ c ρ1 = some (p n) ∧ (p n = true → e ρ1 = some (.fz (.int n)))) : lcGo f c e ρ (ns.map .int) = some ((ns.filter p).map .int) := by
  induction ns with
  | nil => rfl
  | cons n r ih =>
    obtain ⟨ρ1, h1, h2, h3⟩ := h n List.mem_cons_self
    have ih := ih fun x m => h x (List.mem_cons_of_mem _ m)
    rw [List.map_cons, lcGo_cons, h1]
    simp only [h2]
    cases hp : p n with
    | false => simp [ih, hp]
    | true => simp [ih, hp, h3 hp]
theorem bIn_ints {i : Int} {l : List Int} : bIn (.fz (.int i)) (.fz (.list (l.map .int))) = some (decide (i ∈ l)) := by
  have h := @oIn_ints i l
  unfold oIn at h
  obtain ⟨b, e1, e2⟩ := Option.map_eq_some_iff.mp h
  cases e2
  exact e1
theorem oIn_il {i : Int} {l : List Int} : oIn (.fz (.int i)) (.lst (l.map .int)) = some (.fz (.bool (decide (i ∈ l)))) := oIn_ints
theorem oNin_ints {i : Int} {l : List Int} : oNin (.fz (.int i)) (.fz (.list (l.map .int))) = some (.fz (.bool (!decide (i ∈ l)))) := by
  unfold oNin
  rw [bIn_ints]
  rfl
theorem oNin_il {i : Int} {l : List Int} : oNin (.fz (.int i)) (.lst (l.map .int)) = some (.fz (.bool (!decide (i ∈ l)))) := oNin_ints
/-! ### a list's item left out -/
theorem erase_count {x t : Int} : ∀ {l : List Int} {j : Nat}, l[j]? = some t → (l.eraseIdx j).count x + (if t = x then 1 else 0) = l.count x
  | [], _, e => by simp at e
  | n :: r, 0, e => by
    have e' : n = t := by simpa using e
    subst e'
    rw [List.eraseIdx_cons_zero, List.count_cons]
    by_cases h : n = x <;> simp [h]
  | n :: r, j + 1, e => by
    have ih := erase_count (x := x) (l := r) (j := j) (by simpa using e)
    rw [List.eraseIdx_cons_succ, List.count_cons, List.count_cons]
    omega
theorem fstAt_some {i : Int} : ∀ {ns : List Int}, i ∈ ns → ∃ j, fstAt i ns = some j
  | [], h => by cases h
  | n :: r, h => by
    unfold fstAt
    by_cases c : n = i
    · exact ⟨0, if_pos c⟩
    · rw [if_neg c]
      rcases List.mem_cons.mp h with e | m
      · exact absurd e.symm c
      · obtain ⟨j, e⟩ := fstAt_some m
        exact ⟨j + 1, by rw [e]; rfl⟩
/-- a few ints, none twice -/
def okW (m : Int) (W : List Int) : Prop := W.Nodup ∧ ∀ x ∈ W, 0 ≤ x ∧ x < m
theorem okW_nil {m : Int} : okW m [] := ⟨.nil, fun x h => by cases h⟩
theorem len_le_of_sub : ∀ {l r : List Int}, l.Nodup → (∀ x ∈ l, x ∈ r) → l.length ≤ r.length
  | [], _, _, _ => Nat.zero_le _
  | a :: l, r, h, s => by
    have n1 := List.nodup_cons.mp h
    have ma : a ∈ r := s a List.mem_cons_self
    have := len_le_of_sub (r := r.erase a) n1.2 fun x m => by
      have hx := s x (List.mem_cons_of_mem _ m)
      exact (List.mem_erase_of_ne (fun e => n1.1 (by rw [← e]; exact m))).mpr hx
    rw [List.length_erase_of_mem ma] at this
    have hp : 0 < r.length := List.length_pos_of_mem ma
    rw [List.length_cons]
    omega
theorem okW.len {m : Int} {W : List Int} (h : okW m W) : W.length ≤ m.toNat := by
  have := len_le_of_sub (r := (List.range m.toNat).map fun k : Nat => (k : Int)) h.1 fun x hx => by
    obtain ⟨h1, h2⟩ := h.2 x hx
    exact List.mem_map.mpr ⟨x.toNat, List.mem_range.mpr (by omega), by omega⟩
  simpa using this
theorem okW.sub {m : Int} {W V : List Int} (h : okW m W) (s : V.Sublist W) : okW m V := ⟨h.1.sublist s, fun x hx => h.2 x (s.subset hx)⟩
theorem okW.snoc {m : Int} {W : List Int} {x : Int} (h : okW m W) (hx : x ∉ W) (h1 : 0 ≤ x ∧ x < m) : okW m (W ++ [x]) :=
  ⟨List.nodup_append.mpr ⟨h.1, by simp, fun a ha b hb e => hx (by rw [← List.mem_singleton.mp hb, ← e]; exact ha)⟩, fun y hy => by
    rcases List.mem_append.mp hy with q | q
    · exact h.2 y q
    · rw [List.mem_singleton.mp q]; exact h1⟩
end FM
namespace FM
open PySem PySem.Spec L2 PyProof.Rows
/-! ### simp words for targets that take what is own -/
section
variable {ρ : List O} {i n : Nat} {o : O} {f : QT} {g : List O → List O → Option (List O)} {ds : List PD} {r : List O} {z : Str}
@[simp] theorem tName_eq : tName i o ρ = some (ρ.set i o) := rfl
@[simp] theorem tNil2_eq : tNil2 [] ρ = some ρ := rfl
@[simp] theorem tCons2_eq : tCons2 f g (o :: r) ρ = match f o ρ with
    | some ρ1 => g r ρ1
    | none => none := rfl
@[simp] theorem tTup_fz : tTup n g (.fz (.tuple ds)) ρ = if ds.length = n then g (ds.map .fz) ρ else none := rfl
@[simp] theorem tTup_ntp : tTup n g (.ntp r) ρ = if r.length = n then g r ρ else none := rfl
theorem tEnt_eq {kvs : List (Key × O)} (h : qVar i ρ = some (.ndc kvs)) (h1 : (kvs.map (·.1)).Nodup) (h2 : kvs.length < sizeLine) : tEnt i z o ρ = some (ρ.set i (.ndc (putO kvs (.inr z) o))) := by
  unfold tEnt
  rw [h]
  simp only
  rw [if_pos ⟨h1, h2⟩]
end
/-! ### names of the module -/
theorem pe_gs {X : Cx} {x z : Str} {pos : Pos} (hg : Gl X x) (h : ∃ t, X.mg x = some (.str z t)) (hd : (x == ("__debug__" : Str)) = false := by decide) : PE X (.Name x pos) (tC (.str z)) :=
  let ⟨t, e⟩ := h
  C8.pe_gc (v := .str z) hg ⟨_, e, ⟨t, rfl⟩⟩ hd
theorem pe_gi {X : Cx} {x : Str} {z : Int} {pos : Pos} (hg : Gl X x) (h : ∃ t, X.mg x = some (.int z t)) (hd : (x == ("__debug__" : Str)) = false := by decide) : PE X (.Name x pos) (tC (.int z)) :=
  let ⟨t, e⟩ := h
  C8.pe_gc (v := .int z) hg ⟨_, e, ⟨t, rfl⟩⟩ hd
theorem shaped_il {l : List Int} : SeqAt.shaped (.list (l.map .int)) = true := shaped_ints l
theorem oIn_intt {i : Int} {l : List Int} : oIn (.fz (.int i)) (.fz (.tuple (l.map .int))) = some (.fz (.bool (decide (i ∈ l)))) := by
  have e1 : SeqAt.shaped (.tuple (l.map PyData.int)) = true := shaped_ints l
  have e2 : SeqAt.shaped (PyData.int i) = true := by simp [SeqAt.shaped, PyData.canLay0, PyData.depth]
  have e3 : ((l.map PyData.int).any fun z => PyData.eqv z (.int i)) = decide (i ∈ l) := by
    rw [List.any_map, Bool.eq_iff_iff, List.any_eq_true]
    constructor
    · rintro ⟨j, mj, e⟩
      simp [eqv_int] at e
      rw [← e]
      simpa using mj
    · intro mi
      exact ⟨i, by simpa using mi, by simp [eqv_int]⟩
  have e4 : bIn (.fz (.int i)) (.fz (.tuple (l.map .int))) = some (decide (i ∈ l)) := by
    rw [← e3]
    show (if (SeqAt.shaped (PyData.int i) && SeqAt.shaped (PyData.tuple (l.map PyData.int))) = true then _ else _) = _
    rw [e1, e2]
    rfl
  unfold oIn
  rw [e4]
  rfl
/-! ### comprehensions with a test that has effects -/
def lcW2 (f : QG) (c : M Bool) (e : M O) (vs : List Nat) : List PD → List PD → List O → (List PD → List O → Prop) → Prop
  | [], acc, ρ, Q => Q acc ρ
  | x :: xs, acc, ρ, Q => ∃ ρ1, f x ρ = some ρ1 ∧ wM (c ρ1) fun t ρ2 => (t = true → wM (e ρ2) fun o ρ3 => ∃ d, o = .fz d ∧ acc.length < sizeLine ∧ lcW2 f c e vs xs (acc ++ [d]) (wipeO ρ3 vs) Q) ∧ (t = false → lcW2 f c e vs xs acc (wipeO ρ2 vs) Q)
theorem lcW2_go {f : QG} {c : M Bool} {e : M O} {vs : List Nat} {Q : List PD → List O → Prop} : ∀ {xs acc : List PD} {ρ : List O}, lcW2 f c e vs xs acc ρ Q → ∃ ds ρ2, lcGoM f c e vs xs acc ρ = .ok ds ρ2 ∧ Q ds ρ2
  | [], acc, ρ, h => ⟨acc, ρ, rfl, h⟩
  | x :: xs, acc, ρ, h => by
    obtain ⟨ρ1, e1, h⟩ := h
    unfold lcGoM
    rw [e1]
    simp only
    cases ec : c ρ1 with
    | ok t ρ2 =>
      rw [ec] at h
      cases t with
      | false => exact lcW2_go (h.2 rfl)
      | true =>
        have h := h.1 rfl
        simp only
        cases e2 : e ρ2 with
        | ok o ρ3 =>
          rw [e2] at h
          obtain ⟨d, rfl, h1, h2⟩ := h
          simp only [h1, if_true]
          exact lcW2_go h2
        | _ => rw [e2] at h; exact h.elim
    | _ => rw [ec] at h; exact h.elim
theorem wM_lcI2 {mi : M (List PD)} {f : QG} {c : M Bool} {e : M O} {vs : List Nat} {ρ : List O} {Q : O → List O → Prop} (h : wM (mi ρ) fun ds ρ1 => lcW2 f c e vs ds [] (wipeO ρ1 vs) fun acc ρ2 => Q (.lst acc) ρ2) : wM (mLc mi f c e vs ρ) Q := by
  unfold mLc
  cases e1 : mi ρ with
  | ok ds ρ1 =>
    rw [e1] at h
    obtain ⟨acc, ρ2, e2, q⟩ := lcW2_go h
    simp only [e2]
    exact q
  | _ => rw [e1] at h; exact h.elim
theorem cut_map2 {xs : List Int} {lo hi : Option Int} : cut (xs.map PyData.int) lo hi = (cut xs lo hi).map .int := by
  unfold FM.cut
  rw [List.length_map, List.map_take, List.map_drop]
theorem cut_mem2 {xs : List Int} {lo hi : Option Int} {y : Int} (m : y ∈ cut xs lo hi) : y ∈ xs := List.mem_of_mem_drop (List.mem_of_mem_take m)
theorem cut_len2 {xs : List Int} {lo hi : Option Int} : (cut xs lo hi).length ≤ xs.length := by
  unfold FM.cut
  rw [List.length_take, List.length_drop]
  omega
theorem oSl_lst2 {ds : List PD} {lo hi : Option Int} : oSl (.lst ds) lo hi = some (.fz (.list (cut ds lo hi))) := rfl
theorem fPop_snoc {ds : List PD} {x : PD} : fPop (ds ++ [x]) [] = some (x, ds) := by
  unfold fPop
  simp
end FM
namespace FM
open PySem PySem.Spec L2 PyProof.Rows
/-! ### a tuple of the module's own top -/
def tGt (x : Str) (K : Frag) : TE := fun _ H Q => Q (.ref (He.ga K x)) H
theorem pe_gt {X : Cx} {x : Str} {pos : Pos} (hg : Gl X x) (h : X.mg x = some (.ref (He.ga X.K x))) (hd : (x == ("__debug__" : Str)) = false := by decide) : PE X (.Name x pos) (tGt x X.K) :=
  C8.pe_gc (v := .ref (He.ga X.K x)) hg ⟨_, h, rfl⟩ hd
theorem reps_of_strs {K : Frag} {F : Hp} : ∀ (ns : List Str), Reps K F (ns.map V.str) (ns.map .str)
  | [] => .nil
  | n :: r => .cons (.str n) (reps_of_strs r)
theorem tev_gt {k : Kc} {x : Str} {zs : List Str} (h : ∀ G, SqT k.K G (He.ga k.K x) (zs.map V.str)) : TEv k (tGt x k.K) (fun _ => some (.ktp (zs.map .str))) := by
  intro F H σ ρ S o Q q e g
  cases e
  exact g _ F H (Xt.refl q.fle) ⟨[], by simp, .ktp h (reps_of_strs zs)⟩
def tupX (K : Frag) (ts : List (Str × List Str)) : Bool := ts.all fun t => He.tupB K t.1 (t.2.map .str)
theorem tupX_ok {K : Frag} {ts : List (Str × List Str)} (h : tupX K ts = true) {x : Str} {zs : List Str} (m : (x, zs) ∈ ts) (G : Hp) : SqT K G (He.ga K x) (zs.map V.str) := by
  have := He.tupB_ok (List.all_eq_true.mp h (x, zs) m) G
  rw [List.map_map] at this
  exact this
/-! ### list.index of ints -/
section
variable {k : Kc} {ta tb : TE} {qa qb : QE}
def oIdx (x y : O) : Option O := match seqL x, y with
  | some ds, .fz (.int i) => match intsD ds with
    | some ns => match fstAt i ns with
      | some j => some (.fz (.int ((j : Nat) : Int)))
      | none => none
    | none => none
  | _, _ => none
theorem flat_ints : ∀ (ns : List Int), (ns.map V.int).all flatV = true
  | [] => rfl
  | n :: r => by
    rw [List.map_cons, List.all_cons, flat_ints r]
    rfl
theorem tev_idx (ha : TEv k ta qa) (hb : TEv k tb qb) : TEv k (tBM k.K "list" (rIndex k.K) ta (tCons tb tNil)) (qOp oIdx qa qb) := by
  intro F H σ ρ S o Q q e h
  unfold qOp at e
  cases e1 : qa ρ with
  | none => rw [e1] at e; cases e
  | some x =>
    rw [e1] at e
    cases e2 : qb ρ with
    | none => simp only [e2] at e; cases e
    | some y =>
      simp only [e2] at e
      unfold oIdx at e
      split at e
      · rename_i ds i es
        split at e
        · rename_i ns en
          split at e
          · rename_i j hj
            cases e
            refine ha F H σ ρ S x _ q e1 fun v F1 H1 x1 w1 => ?_
            obtain ⟨a, vs, rfl, g1, g2⟩ := w1.seqL x1.fle es
            refine ⟨.inl ⟨rfl, vs, g1⟩, ?_⟩
            refine hb F1 H1 σ ρ S _ _ (q.xt x1) e2 fun w F2 H2 x2 w2 => ?_
            obtain ⟨a2, vs2, ee, g3, g4⟩ := (w1.xt x2).seqL x2.fle es
            cases ee
            have hw : w = .int i := by
              have r := w2.rep
              cases r with
              | int => rfl
              | dic _ _ e => cases e
              | dit _ _ e => cases e
            subst hw
            have e3 := intsD_eq en
            subst e3
            rw [reps_ints g4] at g3
            obtain ⟨h1, h2⟩ := fstAt_is hj
            refine ⟨a, ns.map V.int, .int i, j, .int i, rfl, rfl, g3, rfl, flat_ints ns, by rw [List.getElem?_map, h1]; rfl, by simp [eqV], fun m z' hm hz => ?_, h _ F2 H2 (x1.trans x2) (.fz (.int _))⟩
            rw [List.getElem?_map] at hz
            obtain ⟨n, hn, rfl⟩ := Option.map_eq_some_iff.mp hz
            have : n ≠ i := fun e => h2 m hm (by rw [hn, e])
            simp [eqV, this]
          · cases e
        · cases e
      · cases e
@[simp] theorem oIdx_l {l : List Int} {i : Int} : oIdx (.fz (.list (l.map .int))) (.fz (.int i)) = match fstAt i l with
      | some j => some (.fz (.int ((j : Nat) : Int)))
      | none => none := by
  have e : intsD (l.map PyData.int) = some l := intsD_map l
  unfold oIdx
  show (match intsD (l.map PyData.int) with | some ns => _ | none => none) = _
  rw [e]
theorem fstAt_mem {i : Int} : ∀ {l : List Int}, i ∈ l → ∃ j, fstAt i l = some j ∧ j < l.length
  | [], h => nomatch h
  | n :: r, h => by
    unfold fstAt
    by_cases c : n = i
    · exact ⟨0, by simp [c], by simp⟩
    · rw [if_neg c]
      obtain ⟨j, e, hj⟩ := fstAt_mem (l := r) (by simpa [Ne.symm c] using h)
      exact ⟨j + 1, by rw [e]; rfl, by simpa using hj⟩
end
/-! ### list.insert -/
section
variable {k : Kc}
def rIns : V → List V → Hp → VK → Prop := fun x vs H Q => ∃ (l : Addr) (xs : List V) (i : Int) (y : V), x = .ref l ∧ vs = [.int i, y] ∧ H l = some (.lst xs) ∧ xs.length < sizeLine ∧ 0 ≤ i ∧ i < 2 ^ 63 ∧
    Q .non (upd H l (.lst (xs.take i.toNat ++ [y] ++ xs.drop i.toNat)))
noncomputable def fIns : List PD → List PD → Option (PD × List PD) := fun ds xs => match xs with
  | [.int i, d] => if ds.length < sizeLine ∧ 0 ≤ i ∧ i < 4611686018427387904 then some (.none, ds.take i.toNat ++ [d] ++ ds.drop i.toNat) else none
  | _ => none
theorem lm_ins : LstM k rIns fIns := by
  intro F H a vs ds ws xs d ds' Q fl ha r rw' e g
  unfold fIns at e
  split at e
  · rename_i i d0
    split at e
    · rename_i hb
      cases e
      cases rw' with
      | cons w r2 =>
        cases r2 with
        | cons w3 r3 =>
          cases r3
          have ew := (Vw.fz (k := k) (H := F) (S := []) w).int
          subst ew
          exact ⟨a, vs, i, _, rfl, rfl, ha, by rw [r.length]; exact hb.1, hb.2.1, by have := hb.2.2; omega, g _ _ (((r.take _).append (.cons w3 .nil)).append (r.drop _)) .non⟩
    · cases e
  · cases e
theorem fIns_i {ns : List Int} {i j : Int} (h : ns.length < 16777216) (h1 : 0 ≤ i) (h2 : i < 4611686018427387904) : fIns (ns.map .int) [.int i, .int j] = some (.none, (ns.take i.toNat ++ [j] ++ ns.drop i.toNat).map .int) := by
  unfold fIns
  show (if _ then _ else _) = _
  rw [if_pos ⟨by rw [List.length_map]; exact h, h1, h2⟩]
  simp
end
end FM
namespace FM
open PySem PySem.Spec L2 PyProof.Rows
/-! ### enumerate of a list or a tuple -/
theorem meets_enum1 {v : Value} {o : Obj} {H : Heap → Prop} (B : Begins v o H) :
    Meets (Builtin.«enumerate.__new__» ⟨[.type "enumerate", v], []⟩) (fun _ R s => H s.heap ∧
      R (.ok (.ret (.ref (s.heap.push o).objs.size))) { s with heap := (s.heap.push o).push { cls := .type "enumerate", data := .fields #[.none, .bool false, .ref s.heap.objs.size, rawInt 0, .none, .none] } }) :=
  .of_wp fun prog w A R s h => by
    obtain ⟨hp, g, d, tk, os⟩ := s; obtain ⟨h1, h⟩ := h
    have hsub := sub_enumerate
    have q1 : ∀ {A' : Around} {E : Value → Shared → Prop} {Q : Value → Shared → Prop}, Q (.ref hp.objs.size) ⟨hp.push o, g, d, tk, os⟩ → wpAny (model prog w) A' (pyIter v) Q E ⟨hp, g, d, tk, os⟩ :=
      fun q => B.iter prog w _ _ ⟨hp, g, d, tk, os⟩ _ h1 q
    wp_walk using q1
    refine wpAny_stack_any fun st => wpAny_pure ?_
    split
    · rename_i c _ _ _ _ _
      cases (c == Value.type "enumerate")
      · wp_walk using q1
        exact ⟨_, rfl, h⟩
      · wp_walk using q1
        exact ⟨_, rfl, h⟩
    · wp_walk using q1
      exact ⟨_, rfl, h⟩
theorem enum_begins1 {prog : Program} {w : World} {A : Around} {E : Value → Shared → Prop} {s : Shared} {v : Value} {o : Obj} {H : Heap → Prop} {Q : Value → Shared → Prop} (B : Begins v o H) (h1 : H s.heap)
    (h : ∀ h', IsEnum h' (s.heap.objs.size + 1) s.heap.objs.size 0 .none → h'.get? s.heap.objs.size = some o → h'.objs.size = s.heap.objs.size + 2 →
      (∀ b o, s.heap.get? b = some o → h'.get? b = some o) → Q (.ref (s.heap.objs.size + 1)) { s with heap := h' }) :
    wpAny (model prog w) A (call (.type "enumerate") [v]) Q E s := by
  refine callType_new F.called_enumerate (by decide) (F.typeCall_enumerate_1 _) (F.newCall_enumerate_1 _) (fun obj => F.args_object_init_2 obj _) F.entry_enumerate_new
    (meets_enum1 B) ⟨h1, ?_⟩
  have hz : (s.heap.push o).objs.size = s.heap.objs.size + 1 := Heap.size_push ..
  show _ ∧ _
  rw [hz]
  have he : IsEnum ((s.heap.push o).push { cls := .type "enumerate", data := .fields #[.none, .bool false, .ref s.heap.objs.size, rawInt 0, .none, .none] }) (s.heap.objs.size + 1) s.heap.objs.size 0 .none := by
    have := Heap.get?_push_size (s.heap.push o) (o := { cls := .type "enumerate", data := .fields #[.none, .bool false, .ref s.heap.objs.size, rawInt 0, .none, .none] }) rfl
    rw [hz] at this; exact this
  refine ⟨⟨_, he, rfl⟩, h _ he (Heap.get?_push_of_some _ (Heap.get?_push_size _ B.free)) (by rw [Heap.size_push, hz]) fun b o x => Heap.get?_push_of_some _ (Heap.get?_push_of_some _ x)⟩
def IteB (K : Frag) (b : Bool) (a : Addr) : It :=
  ⟨fun i H => ∃ (xs : List V) (x : V), SqB b K H a xs ∧ xs[i]? = some x,
    fun i H v H' => ∃ (T : Addr) (x : V), v = .ref T ∧ H T = none ∧ H' = upd H T (.tup [.int (i : Nat), x]) ∧ ∀ xs, SqB b K H a xs → xs[i]? = some x,
    fun i H => ∃ xs : List V, SqB b K H a xs ∧ xs.length ≤ i⟩
def tnE (b : Bool) (e it a : Addr) (i : Nat) (h : Heap) : Prop := (∃ old, IsEnum h e it (0 + (i : Int)) old) ∧ IterB b h it a i
theorem turn_enumB {P : Program} {w : World} {K : Frag} {elts : List Expr} {kk : Nat} {tpos : Pos} {b : Bool} {a e it : Addr} (hei : e ≠ it) (hea : e ≠ a) (ha : a ≠ it) :
    Turn P w K (.Tuple elts kk tpos) (IteB K b a) [e, it] e (tnE b e it a) where
  mem := List.mem_cons_self
  obj := fun i h st c hc => by
    obtain ⟨⟨old, q1⟩, q4⟩ := st
    simp only [List.mem_cons, List.not_mem_nil, or_false] at hc
    rcases hc with rfl | rfl
    · exact ⟨_, q1, fun v q => by cases q⟩
    · exact q4.ob
  keep := fun i h h' st k => by
    obtain ⟨⟨old, q1⟩, q4⟩ := st
    exact ⟨⟨old, k e List.mem_cons_self _ q1⟩, q4.at (k it (by simp))⟩
  item := by
    rintro X rfl rfl rfl hc i pins s σ H E I hf ⟨q1, q4⟩ ⟨xs, x, g1, e1⟩
    obtain ⟨its1, r1, p1⟩ := sqB_inv I g1
    obtain ⟨u1, o1, w1⟩ := r1.get e1
    have hd : X.A.in1.handled = none := I.ok.hd hc
    have l1 : i < its1.length := (List.getElem?_eq_some_iff.mp o1).1
    have G := GoesN.enumFrom (elts := elts) (x1 := kk) (pos := tpos) 0 (drawsB (P := X.prog) (w := X.w) (items := its1.toArray) b hd ha) e hei (by simp [hei, hea]) (by simp)
    refine G.goes i s (fun u s2 => ∃ x H', Inv X pins σ H' s2 ∧ RelV x u ∧ (IteB X.K b a).yld i H x H' ∧ tnE b e it a (i + 1) s2.heap ∧ ∀ b ∈ [e, it], H' b = none) E (by simp; omega) ⟨q1, q4, p1⟩ ?_
    rintro v h' tk ⟨T, t, v1, rfl, hT, a1, c⟩ ⟨t1, t4⟩ hk htk
    rw [List.getElem?_toArray, o1] at a1
    cases a1
    obtain ⟨oT, c1, c2, c3, c4⟩ := c
    rw [Int.zero_add] at c4
    have mk : ObjOk X.prog X.w (upd H T (.tup [.int (i : Nat), x])) h' T (.tup [.int (i : Nat), x]) := ⟨show 2 ≤ sizeLine by decide, [.int i t, u1], .cons ⟨_, rfl⟩ (.cons w1 .nil), oT, c1, c2, c3, c4⟩
    have I2 := I.turnedNew (t' := tk) (ch := [e, it]) (fun c o nc q => hk c o nc q) hf hT mk
    refine ⟨.ref T, _, I2, rfl, ⟨T, x, rfl, I.hok.fresh hT, rfl, fun l hl => by rw [sqB_inj I hl g1]; exact e1⟩, ⟨t1, t4.1⟩, fun c hm => ?_⟩
    obtain ⟨oc, ec, _⟩ : ∃ o, s.heap.get? c = some o ∧ True := by
      simp only [List.mem_cons, List.not_mem_nil, or_false] at hm
      rcases hm with rfl | rfl
      · obtain ⟨_, q1⟩ := q1; exact ⟨_, q1, trivial⟩
      · obtain ⟨o, e, _⟩ := q4.ob; exact ⟨o, e, trivial⟩
    have : c < T := Nat.lt_of_lt_of_le (Heap.lt_size ec) hT
    rw [upd_ne (Nat.ne_of_lt this)]
    exact (hf c hm).1
  done := by
    rintro X rfl rfl rfl hc i pins s σ H E I hf ⟨q1, q4⟩ ⟨xs, g1, hz⟩
    obtain ⟨its1, r1, p1⟩ := sqB_inv I g1
    have hd : X.A.in1.handled = none := I.ok.hd hc
    have n1 := r1.length
    have fin : ∀ h' tk, (∀ b o, b ∉ [e, it] → s.heap.get? b = some o → h'.get? b = some o) → s.toks ≤ tk → Inv X pins σ H { s with heap := h', toks := tk } := fun h' tk hk _ =>
      I.turnedL (t' := tk) (ch := [e, it]) (fun c o nc q => hk c o nc q) hf
    have k1 : its1.toArray[i]? = none := by simp; omega
    have G := GoesN.enumFrom (elts := elts) (x1 := kk) (pos := tpos) 0 (drawsEnd (P := X.prog) (w := X.w) (it := it) (a := a) b hd k1) e hei (by simp [hei, hea]) (by simp)
    exact G.stops s _ E ⟨q1, rfl, q4, p1⟩ fin
  self := fun A i s Q E st h => by
    obtain ⟨⟨old, he⟩, _⟩ := st
    exact wpAny_pyIter_enum he h
def iEnumB (K : Frag) (ta : TA) : TI := fun σ H R => ta σ H fun vs H1 => ∃ (a : Addr) (b : Bool) (xs : List V), vs = [.ref a] ∧ SqB b K H1 a xs ∧ R (IteB K b a) H1
theorem pi_enumB {X : Cx} {e : Expr} {ta : TA} {p pos tpos : Pos} {elts : List Expr} {kk : Nat} (hg : Gl X "enumerate") (hm : X.mg "enumerate" = none) (ha : PA X [e] ta) (hs : starEach [e] X.env = [(false, eval e X.env)] := by rfl) :
    PI X (.Tuple elts kk tpos) (.Call (.Name "enumerate" p) [e] [] pos) (iEnumB X.K ta) := by
  refine ⟨fun pins s σ H R I h => ?_⟩
  refine Call_ (ld_blt I hg hm boot_enumerate (PyProof.Rows.callWith_type1 (thn (ha.run pos pins s σ H _ I h) fun us s1 ⟨vs, H1, I1, r1, q1⟩ => ?_) hs rfl))
  obtain ⟨a, b, xs, rfl, g1, q⟩ := q1
  cases r1 with
  | cons r rr =>
    cases rr
    cases r
    obtain ⟨its1, _, p1⟩ := sqB_inv I1 g1
    obtain ⟨o1, B1, it1⟩ := beginsB b a its1.toArray
    have la := p1.lt
    refine enum_begins1 B1 p1 fun h' he hit hsz hk => wpAny_pyIter_enum he ?_
    refine ⟨s1.heap.objs.size + 1, [s1.heap.objs.size + 1, s1.heap.objs.size], tnE b _ _ a, _, H1, rfl, I1.kept (t' := s1.toks) hk, turn_enumB (Nat.succ_ne_self _) (Nat.ne_of_gt (Nat.lt_succ_of_lt la)) (Nat.ne_of_lt la), ⟨⟨.none, he⟩, it1 _ _ hit⟩, fun c hc => ?_, q⟩
    have hle : s1.heap.objs.size ≤ c := by
      simp only [List.mem_cons, List.not_mem_nil, or_false] at hc
      rcases hc with rfl | rfl
      · exact Nat.le_add_right _ _
      · exact Nat.le_refl _
    exact I1.fpOk hle (I1.hok.fresh hle)
section
variable {k : Kc} {P : Hp → Hp → Prop} {a : Addr} {vs : List V} {ds : List PD}
theorem walkD_enumB {b : Bool} (hs : ∀ F H, P F H → FLe F H → SqB b k.K H a vs ∧ Reps k.K F vs ds) (l1 : vs.length = ds.length) : WalkD k P (IteB k.K b a) (enumGo 0 ds) := by
  refine ⟨fun i F H hi p f => ?_, fun F H p f => ?_, fun i F H x H' hi p f y => ?_⟩
  · obtain ⟨h1, _⟩ := enum_at hi
    exact ⟨vs, vs[i], (hs F H p f).1, List.getElem?_eq_getElem (by omega)⟩
  · exact ⟨vs, (hs F H p f).1, by rw [enum_len]; omega⟩
  · obtain ⟨h1, h3⟩ := enum_at hi
    obtain ⟨s1, r1⟩ := hs F H p f
    obtain ⟨T, x1, rfl, hT, rfl, e1⟩ := y
    obtain ⟨v, g1, g2⟩ := r1.get (i := i) (d := ds[i]) (by simp [h1])
    rw [e1 vs s1] at g1
    cases g1
    rw [h3, Nat.zero_add]
    exact pair_new f hT (.int _) g2
def qEnumT (r : List O → Option (List O)) : QI := fun ρ => match r ρ with
  | some [x] => match fzA x with
    | some ds => some (enumGo 0 ds)
    | none => none
  | _ => none
@[simp] theorem qEnumT_eq {r : List O → Option (List O)} {ρ : List O} : qEnumT r ρ = match r ρ with
    | some [x] => match fzA x with
      | some ds => some (enumGo 0 ds)
      | none => none
    | _ => none := rfl
theorem tif_enumT {ta : TA} {qs : List O → Option (List O)} (ha : TAv k ta qs) : TIf k (iEnumB k.K ta) (qEnumT qs) := by
  intro F H σ ρ S xs R q e g
  unfold qEnumT at e
  split at e
  · rename_i x e1
    split at e
    · rename_i ds d1
      cases e
      refine ha F H σ ρ S _ _ q e1 fun us F1 H1 x1 w1 => ?_
      cases w1 with
      | cons w ww =>
        cases ww
        obtain ⟨b1, a, vs, rfl, g1, g2⟩ := vw_fzB w d1
        exact ⟨a, b1, vs, rfl, sqB_le x1.fle (g1 F1 (Same.refl _)), g _ F1 H1 x1 (walkD_enumB (fun F2 H2 p f => ⟨sqB_le f (g1 F2 p), g2.sub p⟩) g2.length)⟩
    · cases e
  · cases e
end
end FM
namespace FM
open PySem PySem.Spec L2 PyProof.Rows
open PySem.W (dataLe alike AllAlike Sortable EachIs)
/-! ### dicts whose keys are tuples: store, sorted -/
def tkD (z : List Key) : PD := .tuple (z.map keyD)
theorem reps_keys {K : Frag} {F : Hp} : ∀ z : List Key, Reps K F (z.map kV) (z.map keyD)
  | [] => .nil
  | .inl i :: r => .cons (.int i) (reps_keys r)
  | .inr x :: r => .cons (.str x) (reps_keys r)
theorem readsAll_keys {h : Heap} : ∀ {z : List Key} {us : List Value} {as : List Addr}, ReadsAll h us (z.map keyD) as → as = []
  | [], _, _, r => by cases r; rfl
  | .inl i :: z, _, _, r => by
    rw [List.map_cons] at r
    cases r with
    | cons h1 h2 =>
      cases h1
      exact readsAll_keys h2
  | .inr x :: z, _, _, r => by
    rw [List.map_cons] at r
    cases r with
    | cons h1 h2 =>
      cases h1
      exact readsAll_keys h2
theorem reads_tk {h : Heap} {z : List Key} {u : Value} {as : List Addr} (r : Reads h u (tkD z) as) : as = [] := by
  unfold tkD at r
  cases r with
  | tuple h1 h2 h3 h4 => exact readsAll_keys h4
theorem depth_keys : ∀ z : List Key, PyData.depthAll (z.map keyD) = 0
  | [] => by simp [PyData.depthAll]
  | .inl i :: z => by simp [PyData.depthAll, PyData.depth, keyD, depth_keys z]
  | .inr x :: z => by simp [PyData.depthAll, PyData.depth, keyD, depth_keys z]
theorem depth_tk {z : List Key} : (tkD z).depth ≤ 1 := by simp [tkD, PyData.depth, depth_keys z]
def rSortDT : List V → Hp → VK → Prop := fun vs H Q => ∃ (a : Addr) (kvs : List (List Key × V)), vs = [.ref a] ∧ Rd H a (.dT kvs) ∧ AllAlike (kvs.map fun p => tkD p.1) ∧ Sortable (kvs.map fun p => tkD p.1) ∧ (∀ p ∈ kvs, (tkD p.1).canLay0 = true) ∧
  ∀ p bs, H p = none → IsKeys H kvs bs → Q (.ref p) (upd H p (.lst ((((bs.map V.ref).zip (kvs.map fun p => tkD p.1)).mergeSort (dataLe false Prod.snd)).map Prod.fst)))
theorem keys_reps {K : Frag} {H : Hp} : ∀ {kvs : List (List Key × V)} {bs : List Addr}, IsKeys H kvs bs → Reps K H (bs.map V.ref) (kvs.map fun p => tkD p.1)
  | [], _, .nil => .nil
  | p :: r, _, .cons h t => .cons (.tup h (reps_keys p.1)) (keys_reps t)
section
variable {X : Cx}
theorem cr_sortDT (hc : X.calm = true) (hu : X.A.units + 64 < cLine) : CallR X (.builtin "sorted") rSortDT := by
  intro pins s σ H xs us Q I r h
  obtain ⟨d, kvs, rfl, hd, hal, hsr, hcl, q⟩ := h
  obtain ⟨u, rfl, rx⟩ := r.one
  cases rx
  obtain ⟨z, hs, ks, pr, o, es, ep, ho, hx, hdt, he, hn⟩ := (show ObjOk X.prog X.w H s.heap d (.dT kvs) from hd.ok I.hok)
  have l1 : es.size = ks.length := size_of_entries he
  have l2 : kvs.length = ks.length := Paired.length pr
  have ik := isKeys_of pr
  refine Calls.call_function_entry PyProof.Rows.kind_sorted PyProof.Rows.plain_sorted PyProof.Rows.entry_sorted (PyProof.Rows.args_sorted1 _) ?_
  unfold Builtin.«sorted»
  refine wpAny_bind (m := checkCount "sorted" 1 1 _) (wpAny_pure (wpAny_bind (PySem.W.kdu_collect (A := X.A.in1) (kdl_raw hs hx hdt) (I.ok.hd hc) ho (by omega) fun hp tk acc kk it => ?_)))
  have ea : acc.toList = ks.map fun x => Value.ref x.2.1 := by
    have hl : acc.toList.length = ks.length := by rw [Array.length_toList, it.1]; exact l1
    apply List.ext_getElem?
    intro j
    rw [List.getElem?_map]
    cases hj : acc.toList[j]? with
    | none =>
      have h1 := List.getElem?_eq_none_iff.mp hj
      rw [List.getElem?_eq_none (by omega)]
      all_goals rfl
    | some v =>
      obtain ⟨en, hen, hv⟩ := it.2 j v (by rw [← Array.getElem?_toList]; exact hj)
      have qe := entry_at he j
      rw [hen] at qe
      cases hb : ks[j]? with
      | none =>
        rw [hb] at qe
        exact nomatch (show some en = none from qe)
      | some b =>
        rw [hb] at qe
        have e2 : en = entryOfKey (tupleKind (mixKind X.prog X.w)) b := Option.some.inj qe
        rw [hv, e2]
        all_goals rfl
  have eb : acc.toList = (ks.map fun x => x.2.1).map Value.ref := by rw [ea, List.map_map]; all_goals rfl
  generalize hbs : (ks.map fun x => x.2.1) = bs at eb ik
  have lb : bs.length = kvs.length := by rw [← hbs, List.length_map]; omega
  have rv : Vals (bs.map V.ref) acc.toList := by rw [eb]; exact vals_refs _
  have hz : acc.toList.length ≤ sizeLine := by rw [eb, List.length_map]; omega
  have J : Inv X pins σ H { s with heap := hp, toks := tk } := I.kept kk
  refine wpAny_bind (wpAny_newList ?_ hz)
  have oL : (hp.push (seqObj "list" acc.toList.toArray 0)).get? hp.objs.size = some (seqObj "list" acc.toList.toArray 0) := Heap.get?_push_size _ rfl
  have hfr : H hp.objs.size = none := J.hok.fresh (Nat.le_refl _)
  have J2 : Inv X pins σ (upd H hp.objs.size (.lst (bs.map V.ref))) { s with heap := hp.push (seqObj "list" acc.toList.toArray 0), toks := tk } :=
    J.laid (t' := tk) (fun b o e => Heap.get?_push_of_some _ e) (Nat.le_refl _) ⟨by rw [List.length_map]; omega, acc.toList, 0, rv, oL⟩
  show wpAny _ _ _ _ _ { s with heap := hp.push (seqObj "list" acc.toList.toArray 0), toks := tk }
  obtain ⟨zs, hzs⟩ : ∃ zs, zs = (bs.map V.ref).zip (kvs.map fun p => tkD p.1) := ⟨_, rfl⟩
  have q2 := q hp.objs.size bs hfr ik
  rw [← hzs] at q2
  have rr := keys_reps (K := X.K) ik
  obtain ⟨z1, z2, z3⟩ := zip_reps rr
  rw [← hzs] at z1 z2 z3
  have zm : ∀ y ∈ zs, ∃ p ∈ kvs, y.2 = tkD p.1 := fun y m => by
    have : y.2 ∈ zs.map Prod.snd := List.mem_map.mpr ⟨y, m, rfl⟩
    rw [z3] at this
    obtain ⟨p, mp, e⟩ := List.mem_map.mp this
    exact ⟨p, mp, e.symm⟩
  have e : EachIs (fun v (b : V × PD) => RelV b.1 v) acc.toList zs := each_vals (by rw [z2]; exact rv)
  have er : EachIs (fun v (b : V × PD) => ∃ as, Reads (hp.push (seqObj "list" acc.toList.toArray 0)) v b.2 as ∧ hp.objs.size ∉ as) acc.toList zs := (each_in e).mono fun v b ⟨h1, h2⟩ => by
    obtain ⟨p, mp, ep⟩ := zm b h2
    have r1 : Rep X.K (upd H hp.objs.size (.lst (bs.map V.ref))) b.1 b.2 := (z1 b h2).sub (same_upd hfr)
    obtain ⟨as, ra⟩ := Dp.reads J2 b.2 b.1 v (r1.dp (by rw [ep]; exact hcl p mp)) h1
    refine ⟨as, ra, ?_⟩
    rw [ep] at ra
    rw [reads_tk ra]
    simp
  have hL : zs.length ≤ sizeLine := by
    have := congrArg List.length z2
    rw [List.length_map, List.length_map] at this
    omega
  refine wpAny_bind (wpAny_holding (PySem.W.list_sort_data (enc := Prod.snd) (s := { s with heap := hp.push (seqObj "list" acc.toList.toArray 0), toks := tk }) oL e er (by rw [z3]; exact hal) (by rw [z3]; exact hsr) hL (fun b m => by
    obtain ⟨p, mp, ep⟩ := zm b m
    have := depth_tk (z := p.1)
    rw [ep]
    show X.A.units + 1 + 1 + _ < _
    omega) fun out h1 h2 => ?_))
  obtain ⟨e', he'⟩ := PyProof.Rows.sortedHeap_at (vs := acc.toList) (out := out.toArray) oL
  have rv2 := vals_each h2
  have hlen : ((zs.mergeSort (dataLe false Prod.snd)).map Prod.fst).length ≤ sizeLine := by
    rw [List.length_map, List.length_mergeSort]
    exact hL
  refine wpAny_pure ⟨_, rfl, .ref hp.objs.size, upd H hp.objs.size (.lst ((zs.mergeSort (dataLe false Prod.snd)).map Prod.fst)), J.laid (t' := tk) (fun b u e => ?_) (Nat.le_refl _) ⟨hlen, out, e', rv2, he'⟩, rfl, q2⟩
  have hb : b < hp.objs.size := Heap.lt_size e
  rw [PyProof.Rows.sortedHeap_old (Nat.ne_of_lt hb) (by rw [size_push']; exact Nat.lt_succ_of_lt hb)]
  exact Heap.get?_push_of_some _ e
end
end FM
namespace FM
open PySem PySem.Spec L2 PyProof.Rows
open PySem.W (dataLe alike AllAlike Sortable EachIs)
/-- tuples of ints and texts are taken into what is frozen -/
def adp (F H : Hp) (bs : List Addr) : Hp := fun a => if a ∈ bs then H a else F a
theorem adp_xt {F H : Hp} {bs : List Addr} (f : FLe F H) (g : ∀ a ∈ bs, ∃ u, gnd u ∧ H a = some u) : Xt F H (adp F H bs) H := by
  refine ⟨Same.refl _, fun a u e => ?_, fun a u e => ?_, fun a u e => ?_⟩
  · unfold adp
    by_cases m : a ∈ bs
    · rw [if_pos m]
      obtain ⟨w, ⟨z, ez⟩, ew⟩ := g a m
      rcases f a u e with q | ⟨_, o, q⟩
      · exact q
      · rw [ew, ez] at q; cases q
    · rw [if_neg m]; exact e
  · unfold adp at e
    by_cases m : a ∈ bs
    · rw [if_pos m] at e; exact .inl e
    · rw [if_neg m] at e; exact f a u e
  · unfold adp at e
    by_cases m : a ∈ bs
    · rw [if_pos m] at e
      obtain ⟨w, gw, ew⟩ := g a m
      rw [ew] at e
      cases e
      exact .inr (.inr ⟨gw, ew⟩)
    · rw [if_neg m] at e; exact .inl e
theorem isKeys_gnd {H : Hp} : ∀ {kvs : List (List Key × V)} {bs : List Addr}, IsKeys H kvs bs → ∀ a ∈ bs, ∃ u, gnd u ∧ H a = some u
  | _, _, .nil, a, m => by cases m
  | p :: _, _, .cons h t, a, m => by
    rcases List.mem_cons.mp m with e | m
    · rw [e]; exact ⟨_, ⟨p.1, rfl⟩, h⟩
    · exact isKeys_gnd t a m
theorem isKeys_reps {K : Frag} {H F : Hp} : ∀ {kvs : List (List Key × V)} {bs : List Addr}, IsKeys H kvs bs → (∀ a ∈ bs, F a = H a) → Reps K F (bs.map V.ref) (kvs.map fun p => tkD p.1)
  | [], _, .nil, _ => .nil
  | p :: r, _, .cons h t, e => .cons (.tup ((e _ List.mem_cons_self).trans h) (reps_keys p.1)) (isKeys_reps t fun a m => e a (List.mem_cons_of_mem _ m))
theorem RepT.tks {K : Frag} {F : Hp} : ∀ {vs : List (List Key × V)} {ds : List (List Key × PD)}, RepT K F vs ds → (vs.map fun p => tkD p.1) = ds.map fun p => tkD p.1
  | _, _, .nil => rfl
  | _, _, .cons _ r => congrArg (_ :: ·) (RepT.tks r)
theorem RepT.len' {K : Frag} {F : Hp} : ∀ {vs : List (List Key × V)} {ds : List (List Key × PD)}, RepT K F vs ds → vs.length = ds.length
  | _, _, .nil => rfl
  | _, _, .cons _ r => congrArg (· + 1) (RepT.len' r)
def oSortT : List O → Option O
  | [.dit ds] => if sortC (ds.map fun p => tkD p.1) then some (.lst (sortD (ds.map fun p => tkD p.1))) else none
  | _ => none
theorem cn_sortT {k : Kc} : CbN k rSortDT oSortT := by
  intro F H S xs os o Q f off th ws e h
  unfold oSortT at e
  split at e
  · rename_i ds
    split at e
    · rename_i hc
      cases e
      cases ws with
      | cons w ws =>
        cases ws
        obtain ⟨a, vs, rfl, hd, r⟩ := w.dicT f (rfl : FM.dicT (.dit ds) = some ds)
        have hk := r.tks
        unfold sortC at hc
        simp only [Bool.and_eq_true] at hc
        obtain ⟨⟨c1, c2⟩, c3⟩ := hc
        rw [← hk] at c1 c2 c3
        refine ⟨a, vs, rfl, hd, ?_, ?_, fun p m => ?_, fun p bs hp ik => ?_⟩
        · intro d m d' m'
          exact List.all_eq_true.mp (List.all_eq_true.mp c1 d m) d' m'
        · rcases (Bool.or_eq_true _ _).mp c2 with c2 | c2
          · refine .inl fun d m => ?_
            have := List.all_eq_true.mp c2 d m
            obtain ⟨p, mp, rfl⟩ := List.mem_map.mp m
            unfold tkD at this ⊢
            cases hp : p.1.map keyD with
            | nil => rw [hp] at this; cases this
            | cons x r => exact ⟨x, r, rfl⟩
          · refine .inr fun d m => ?_
            have := List.all_eq_true.mp c2 d m
            obtain ⟨p, mp, rfl⟩ := List.mem_map.mp m
            cases this
        · have := List.all_eq_true.mp c3 _ (List.mem_map.mpr ⟨p, m, rfl⟩)
          simp at this
          exact this.2
        · have x := adp_xt f (isKeys_gnd ik)
          have rr := isKeys_reps (K := k.K) (F := adp F H bs) ik fun b m => if_pos m
          obtain ⟨z1, z2, z3⟩ := zip_reps rr
          generalize hzs : (bs.map V.ref).zip (vs.map fun p => tkD p.1) = zs at z1 z2 z3
          have srt : (zs.mergeSort (dataLe false Prod.snd)).map Prod.snd = sortD (ds.map fun p => tkD p.1) := by
            have e1 := PySem.W.sort_maps (r := dataLe false Prod.snd) (s := dataLe false id) (Prod.snd : V × PD → PD) (l := zs) (fun _ _ _ _ => rfl)
            rw [e1, z3, hk]
            rfl
          have rr2 := reps_mem (K := k.K) (F := adp F H bs) (l := zs.mergeSort (dataLe false Prod.snd)) fun z m => z1 z (List.mem_mergeSort.mp m)
          rw [srt] at rr2
          exact own_list x.fle rr2 (fun v F' H' T x2 w fr => h v F' H' T (x.trans x2) w fr) p hp
    · cases e
  · cases e
/-! store -/
def keyTT : O → Option (List Key)
  | .fz (.tuple ds) => unks ds
  | _ => none
theorem RepT.any {K : Frag} {F : Hp} (x : List Key) : ∀ {vs : List (List Key × V)} {ds : List (List Key × PD)}, RepT K F vs ds → (vs.any fun kv => decide (kv.1 = x)) = (ds.any fun kv => decide (kv.1 = x))
  | _, _, .nil => rfl
  | _, _, .cons h r => by simp only [List.any_cons, RepT.any x r]
theorem RepT.maps {K : Frag} {F : Hp} {x : List Key} {v : V} {d : PD} (h0 : Rep K F v d) : ∀ {vs : List (List Key × V)} {ds : List (List Key × PD)}, RepT K F vs ds → RepT K F (vs.map fun kv => if kv.1 = x then (kv.1, v) else kv) (ds.map fun kv => if kv.1 = x then (kv.1, d) else kv)
  | _, _, .nil => .nil
  | (k, w) :: _, (_, e) :: _, .cons h r => by
    have ih := RepT.maps (x := x) h0 r
    simp only [List.map_cons]
    by_cases c : k = x
    · rw [if_pos c, if_pos c]; exact .cons h0 ih
    · rw [if_neg c, if_neg c]; exact .cons h ih
theorem RepT.snoc {K : Frag} {F : Hp} {x : List Key} {v : V} {d : PD} (h0 : Rep K F v d) : ∀ {vs : List (List Key × V)} {ds : List (List Key × PD)}, RepT K F vs ds → RepT K F (vs ++ [(x, v)]) (ds ++ [(x, d)])
  | _, _, .nil => .cons h0 .nil
  | _, _, .cons h r => .cons h (RepT.snoc h0 r)
theorem RepT.put {K : Frag} {F : Hp} {x : List Key} {v : V} {d : PD} {vs : List (List Key × V)} {ds : List (List Key × PD)} (r : RepT K F vs ds) (h0 : Rep K F v d) : RepT K F (putK vs x v) (putD ds x d) := by
  unfold putK putD
  rw [r.any x]
  split
  · exact RepT.maps h0 r
  · exact RepT.snoc h0 r
section
variable {k : Kc} {E : XK}
theorem StW.ditAt {P : List (Nat × V)} {e : Ent} {σ : L2.St} {ρ : List O} {vs : List V} {os : List O} {F H : Hp} {S1 S2 : List Addr} {i : Nat} {ds : List (List Key × PD)} (s : StW k P e σ ρ vs os F H S1 S2) (e0 : qVar i ρ = some (.dit ds)) :
    ∃ a ws, σ[i]? = some (some (.ref a)) ∧ H a = some (.dT ws) ∧ RepT k.K F ws ds ∧ ∀ ws' ds', RepT k.K F ws' ds' → ∃ U, StW k P e σ (ρ.set i (.dit ds')) vs os F (upd H a (.dT ws')) U S2 := by
  obtain ⟨env, tmp, fr, pin⟩ := s
  obtain ⟨g1, g2⟩ := qVar_some e0
  obtain ⟨v, T, R, a1, a2, a3, a4⟩ := env.take g1 g2
  cases a2 with
  | @dit a ws _ h r =>
    have frz : Fr e F H (a :: (R ++ S2)) := Sbp.fr fr (.of_count fun b => by
      have c2 := a4.count_eq b
      simp only [List.count_append, List.count_cons, List.count_nil] at c2 ⊢
      omega)
    have ha : H a = some (.dT ws) := by
      rcases h with h | ⟨ob, h⟩
      · exact h
      · exact (frz.nofz a List.mem_cons_self ob _ h).elim
    refine ⟨a, ws, a1, ha, r, fun ws' ds' r' => ?_⟩
    have nd := List.nodup_cons.mp frz.nd
    have keep : ∀ U : List Addr, (∀ b ∈ U, b ∈ R ++ S2) → At U H (upd H a (.dT ws')) := fun U m b mb u z => by
      rw [upd_ne (fun q => nd.1 (by rw [← q]; exact m b mb))]
      exact z
    have fw := frz.write (a := a) (o := .dT ws') List.mem_cons_self (fun _ _ z => by cases z)
    have env3 := a3.mono (Same.refl F) (keep R fun b m => List.mem_append_left _ m)
    have tmp3 := tmp.mono (Same.refl F) (keep S2 fun b m => List.mem_append_right _ m)
    obtain ⟨U, mU, q⟩ := env3.put (i := i) a1 (Own.dit (k := k) (F := F) (.inl upd_same) r')
    rw [List.set_set] at q
    exact ⟨U, q, tmp3, Sbp.fr fw (.of_count fun b => by
      have := mU.count b
      simp only [List.count_append, List.count_cons, List.count_nil] at this ⊢
      omega), pin⟩
def sSetT (s : Nat) (qi : QE) (m : M O) : MS := fun ρ => match m ρ with
  | .ok (.fz d) ρ1 => match qVar s ρ1 with
    | some (.dit kvs) => match qi ρ1 with
      | some i => match keyTT i with
        | some x => if kvs.length < sizeLine then .next (ρ1.set s (.dit (putD kvs x d))) else .bad
        | none => .bad
      | none => .bad
    | _ => .bad
  | .ok _ _ => .bad
  | .exc x ρ1 => .exc x ρ1
  | .bad => .bad
theorem tsm_setT {s : Nat} {te ti : TE} {m : M O} {qi : QE} (h : TEm k E te m) (hi : TEv k ti qi) : TSm k E [] (tAsg te (gSub (tVar s) ti rSetU)) (sSetT s qi m) := by
  intro P e σ ρ vs os H D o st g
  refine h P e σ ρ vs os H _ st ?_
  unfold sSetT at g
  cases e1 : m ρ with
  | exc x ρ1 => rw [e1] at g; exact g.exc
  | bad => rw [e1] at g; exact g
  | ok z ρ1 =>
    rw [e1] at g
    intro v H1 s1
    cases z with
    | fz d =>
      simp only at g
      obtain ⟨F, S1, S2, s1⟩ := s1
      split at g
      · rename_i kvs e2
        split at g
        · rename_i i e3
          split at g
          · rename_i x e4
            split at g
            · rename_i hz
              obtain ⟨a, ws, a1, a2, a3, a4⟩ := s1.ditAt e2
              refine ⟨.ref a, a1, hi F H1 σ ρ1 S1 _ _ s1.qs e3 fun w F2 H2 x2 w2 => ?_⟩
              have s2 := s1.xt x2
              obtain ⟨a', ws2, b1, b2, b3, b4⟩ := s2.ditAt e2
              rw [a1] at b1
              cases b1
              have rd := s2.top.1
              unfold keyTT at e4
              split at e4
              · have r := w2.rep
                cases r with
                | @tup b ws3 _ q1 q2 =>
                  have ek := q2.keys e4
                  subst ek
                  refine .inr ⟨a, _, rfl, DPut.t b2 (tup_le x2.fle q1) (by rw [b3.len']; exact hz), ?_⟩
                  obtain ⟨U, s5⟩ := b4 _ _ (b3.put rd)
                  obtain ⟨_, s6⟩ := s5.top
                  exact g σ _ ⟨F2, U, S2, s6⟩
                | dic _ _ e => cases e
                | dit _ _ e => cases e
              · cases e4
            · exact g.elim
          · exact g.elim
        · exact g.elim
      · exact g.elim
    | _ => exact g.elim
end
section
variable {ρ : List O} {nx bk ct : List O → Prop} {rt : O → List O → Prop} {m : M O} {qi : QE}
@[simp] theorem wS_setT {s : Nat} : wS (sSetT s qi m ρ) nx rt bk ct = wM (m ρ) fun o ρ1 => ∃ d, o = .fz d ∧ ∃ kvs, qVar s ρ1 = some (.dit kvs) ∧ ∃ i, qi ρ1 = some i ∧ ∃ x, keyTT i = some x ∧ kvs.length < sizeLine ∧ nx (ρ1.set s (.dit (putD kvs x d))) := by
  unfold sSetT
  cases e : m ρ with
  | ok o ρ1 =>
    cases o with
    | fz d =>
      simp only [wM_ok]
      cases e2 : qVar s ρ1 with
      | none => simp [wS, e2]
      | some z =>
        cases z with
        | dit kvs =>
          cases e3 : qi ρ1 with
          | none => simp [wS, e2, e3]
          | some y =>
            cases e4 : keyTT y with
            | none => simp [wS, e2, e3, e4]
            | some x => by_cases hz : kvs.length < sizeLine <;> simp [wS, e2, e3, e4, hz]
        | _ => simp [wS, e2]
    | _ => simp [wS, e]
  | _ => simp [wS, wM, e]
@[simp] theorem keyTT_ii {i j : Int} : keyTT (.fz (.tuple [.int i, .int j])) = some [.inl i, .inl j] := rfl
@[simp] theorem qDt0_eq : qDt0 ρ = some (.dit []) := rfl
end
end FM
namespace FM
open PySem PySem.Spec L2 PyProof.Rows
/-! ### a tuple, many times over -/
def oMulT (x y : O) : Option O := match x, y with
  | .fz (.tuple ds), .fz (.int k) => if ds.length ≠ 0 ∧ 2 ≤ k ∧ k ≤ 1000 ∧ ds.length ≤ 1000 then some (.fz (.tuple (List.replicate k.toNat ds).flatten)) else none
  | _, _ => none
theorem ov_mulT {k : Kc} : OpV k (rRepT k.K) oMulT := by
  intro F H S x y ox oy o Q f off th wx wy e h
  unfold oMulT at e
  split at e
  · rename_i ds i
    split at e
    · rename_i hz
      cases e
      have ei := wy.int
      have r := wx.rep
      cases r with
      | @tup a vs _ q1 q2 =>
        refine ⟨a, i, vs, rfl, ei, SqT.of (tup_le f q1), ?_, hz.2.1, hz.2.2.1, by rw [q2.length]; exact hz.2.2.2, fun p hp => ?_⟩
        · rintro rfl
          have := q2.length
          exact hz.1 this.symm
        · have x := Xt.new (o := .tup (List.replicate i.toNat vs).flatten) f hp
          exact h _ _ _ x (.fz (.tup upd_same ((q2.rep _).sub x.sub)))
      | dic _ _ e => cases e
      | dit _ _ e => cases e
    · cases e
  · cases e
@[simp] theorem oMulT_t {ds : List PD} {k : Int} : oMulT (.fz (.tuple ds)) (.fz (.int k)) = if ds.length ≠ 0 ∧ 2 ≤ k ∧ k ≤ 1000 ∧ ds.length ≤ 1000 then some (.fz (.tuple (List.replicate k.toNat ds).flatten)) else none := rfl
end FM
namespace FM
open PySem PySem.Spec L2 PyProof.Rows
/-! ### tuple(range(n)) -/
noncomputable def qTrg1 (a : QE) : QE := fun ρ => match a ρ with
  | some (.fz (.int n)) => if big62 n && decide (n.toNat ≤ 2 ^ 24) then some (.fz (.tuple (rngD 0 n.toNat))) else none
  | _ => none
theorem tev_trg1 {k : Kc} {te : TE} {qa : QE} (ha : TEv k te qa) : TEv k (tTupRg (tRg1 te)) (qTrg1 qa) := by
  intro F H σ ρ S o Q q e h
  unfold qTrg1 at e
  split at e
  · rename_i n e1
    split at e
    · rename_i hz
      simp only [Bool.and_eq_true, decide_eq_true_eq] at hz
      have e' := Option.some.inj e
      subst e'
      refine ha F H σ ρ S _ _ q e1 fun v F1 H1 x1 w1 => ?_
      have b := big62_ok hz.1
      refine ⟨n, w1.int, ⟨by decide, by decide, b.1, b.2, by rw [Int.sub_zero]; exact hz.2⟩, ?_⟩
      have r := reps_rg (K := k.K) (F := F1) 0 n
      rw [Int.sub_zero] at r
      exact new_tuple x1.fle r fun v F' H' x w => h v F' H' (x1.trans x) w
    · cases e
  · cases e
theorem qTrg1_n {a : QE} {ρ : List O} {n : Nat} (hn : n ≤ 1000000) (h : a ρ = some (.fz (.int (n : Int)))) : qTrg1 a ρ = some (.fz (.tuple (rngD 0 n))) := by
  have hb : big62 (n : Int) = true := big62_s (by omega) (by omega)
  unfold qTrg1
  rw [h]
  have : n ≤ 2 ^ 24 := by omega
  simp [hb, this]
end FM
namespace FM
open PySem PySem.Spec L2 PyProof.Rows
/-! ### lists of one's own lists: made by a comprehension, an element's method -/
section
variable {k : Kc} {E : XK}
theorem rd_inj {H : Hp} {a : Addr} {u v : List V} (h1 : Rd H a (.lst u)) (h2 : Rd H a (.lst v)) : u = v := by
  rcases h1 with h1 | ⟨o, h1⟩ <;> rcases h2 with h2 | ⟨o2, h2⟩ <;> rw [h1] at h2 <;> cases h2 <;> rfl
theorem StW.nstAt {P : List (Nat × V)} {e : Ent} {σ : L2.St} {ρ : List O} {vs : List V} {os ls : List O} {F H : Hp} {S1 S2 : List Addr} {i j : Nat} {ds : List PD} (s : StW k P e σ ρ vs os F H S1 S2) (e0 : qVar i ρ = some (.nst ls)) (e1 : ls[j]? = some (.lst ds)) :
    ∃ b us a ws, σ[i]? = some (some (.ref b)) ∧ Rd H b (.lst us) ∧ us[j]? = some (.ref a) ∧ H a = some (.lst ws) ∧ Reps k.K F ws ds ∧
      ∀ ws' ds', Reps k.K F ws' ds' → ∃ U, StW k P e σ (ρ.set i (.nst (ls.set j (.lst ds')))) vs os F (upd H a (.lst ws')) U S2 := by
  obtain ⟨env, tmp, fr, pin⟩ := s
  obtain ⟨g1, g2⟩ := qVar_some e0
  obtain ⟨w, T, R, a1, a2, a3, a4⟩ := env.take g1 g2
  cases a2 with
  | @nst b us _ T4 h r =>
    obtain ⟨w, T5, R5, n1, n2, n3, n4⟩ := r.takeAt e1
    cases n2 with
    | @lst a ws _ hl rd =>
      have fr2 : Fr e F H (a :: b :: (R5 ++ (R ++ S2))) := Sbp.fr fr (.of_count fun z => by
        have c2 := a4.count_eq z
        have c4 := n4.count_eq z
        simp only [List.count_append, List.count_cons, List.count_nil] at c2 c4 ⊢
        omega)
      have ha : H a = some (.lst ws) := by
        rcases hl with h | ⟨ob, h⟩
        · exact h
        · exact (fr2.nofz a List.mem_cons_self ob _ h).elim
      refine ⟨b, us, a, ws, a1, h, n1, ha, rd, fun ws' ds' r' => ?_⟩
      have nd := List.nodup_cons.mp fr2.nd
      have keep : ∀ U : List Addr, (∀ z ∈ U, z ∈ b :: (R5 ++ (R ++ S2))) → At U H (upd H a (.lst ws')) := fun U m z mz u q => by
        rw [upd_ne (fun w => nd.1 (by rw [← w]; exact m z mz))]
        exact q
      have fw := fr2.write (a := a) (o := .lst ws') List.mem_cons_self (fun _ _ z => by cases z)
      have env3 := a3.mono (Same.refl F) (keep R fun z m => by simp only [List.mem_cons, List.mem_append]; exact .inr (.inr (.inl m)))
      have tmp3 := tmp.mono (Same.refl F) (keep S2 fun z m => by simp only [List.mem_cons, List.mem_append]; exact .inr (.inr (.inr m)))
      have hr3 := n3.mono (Same.refl F) (keep R5 fun z m => by simp only [List.mem_cons, List.mem_append]; exact .inr (.inl m))
      have hnb : b ≠ a := fun q => nd.1 (by rw [← q]; simp)
      have hb2 : Rd (upd H a (.lst ws')) b (.lst us) := by
        rcases h with h | ⟨ob, h⟩
        · exact .inl (by rw [upd_ne hnb]; exact h)
        · exact .inr ⟨ob, by rw [upd_ne hnb]; exact h⟩
      obtain ⟨U5, m5, q5⟩ := hr3.putAt (j := j) (Own.lst (k := k) (F := F) (.inl upd_same) r') n1
      rw [List.set_set] at q5
      obtain ⟨U, mU, q⟩ := env3.put (i := i) a1 (Own.nst (k := k) (F := F) hb2 q5)
      rw [List.set_set] at q
      exact ⟨U, q, tmp3, Sbp.fr fw (.of_count fun z => by
        have h1 := mU.count z
        have h3 := m5 z
        simp only [List.count_append, List.count_cons, List.count_nil] at h1 h3 ⊢
        omega), pin⟩
/-- an own list of own things on top grows -/
theorem St.growN {P : List (Nat × V)} {e : Ent} {σ : L2.St} {ρ : List O} {vs : List V} {os : List O} {H : Hp} {y : V} {o : O} {D : Addr} {acc : List O} (s : St k P e σ ρ (y :: .ref D :: vs) (o :: .nst acc :: os) H) :
    ∃ ws, H D = some (.lst ws) ∧ ws.length = acc.length ∧ St k P e σ ρ (.ref D :: vs) (.nst (acc ++ [o]) :: os) (upd H D (.lst (ws ++ [y]))) := by
  obtain ⟨F, S1, S2, s⟩ := s
  obtain ⟨env, tmp, fr, pin⟩ := s
  cases tmp with
  | @cons _ _ _ _ T0 U0 w0 r0 =>
    cases r0 with
    | @cons _ _ _ _ T U w r =>
      cases w with
      | @nst a ws _ T4 h rr =>
        have fr' : Fr e F H (D :: (S1 ++ (T0 ++ (T4 ++ U)))) := Sbp.fr fr (.of_count fun b => by
          simp only [List.count_append, List.count_cons, List.count_nil]
          omega)
        have hD : H D = some (.lst ws) := by
          rcases h with h | ⟨ob, h⟩
          · exact h
          · exact (fr'.nofz D List.mem_cons_self ob _ h).elim
        have nd := List.nodup_cons.mp fr'.nd
        have at_ : ∀ Z : List Addr, (∀ b ∈ Z, b ∈ S1 ++ (T0 ++ (T4 ++ U))) → At Z H (upd H D (.lst (ws ++ [y]))) := fun Z m b mb u z => by
          rw [upd_ne (fun q => nd.1 (by rw [← q]; exact m b mb))]
          exact z
        have fw := fr'.write (a := D) (o := .lst (ws ++ [y])) List.mem_cons_self (fun _ _ z => by cases z)
        have e1 := env.mono (Same.refl F) (at_ S1 fun b m => List.mem_append_left _ m)
        have e2 := w0.mono (Same.refl F) (at_ T0 fun b m => List.mem_append_right _ (List.mem_append_left _ m))
        have e3 := rr.mono (Same.refl F) (at_ T4 fun b m => List.mem_append_right _ (List.mem_append_right _ (List.mem_append_left _ m)))
        have e4 := r.mono (Same.refl F) (at_ U fun b m => List.mem_append_right _ (List.mem_append_right _ (List.mem_append_right _ m)))
        refine ⟨ws, hD, rr.length, F, S1, (D :: (T4 ++ T0)) ++ U, e1, .cons (.nst (.inl upd_same) (Owns.snoc e2 e3)) e4, Sbp.fr fw (.of_count fun b => ?_), pin⟩
        simp only [List.count_append, List.count_cons, List.count_nil]
        omega
def lcGoN (f : QG) (c : M Bool) (e : M O) (vs : List Nat) : List PD → List O → List O → R (List O)
  | [], acc, ρ => .ok acc ρ
  | x :: xs, acc, ρ => match f x ρ with
    | none => .bad
    | some ρ1 => match c ρ1 with
      | .ok false ρ2 => lcGoN f c e vs xs acc (wipeO ρ2 vs)
      | .ok true ρ2 => match e ρ2 with
        | .ok o ρ3 => if acc.length < sizeLine then lcGoN f c e vs xs (acc ++ [o]) (wipeO ρ3 vs) else .bad
        | _ => .bad
      | _ => .bad
def mLcN (mi : M (List PD)) (f : QG) (c : M Bool) (e : M O) (vs : List Nat) : M O := fun ρ => match mi ρ with
  | .ok ds ρ1 => match lcGoN f c e vs ds [] (wipeO ρ1 vs) with
    | .ok acc ρ2 => .ok (.nst acc) ρ2
    | _ => .bad
  | .exc x ρ1 => .exc x ρ1
  | .bad => .bad
theorem tem_lcN {wi : TI} {g : TG} {tt : TT} {te : TE} {vs : List Nat} {mi : M (List PD)} {f : QG} {c : M Bool} {me : M O} {J : List Nat} (hi : TIm k E wi mi) (hg : TGq k g f J) (hJ : J.all fun j => vs.contains j) (ht : TTm k E0 tt c) (he : TEm k E0 te me) :
    TEm k E (tLc wi g tt te vs) (mLcN mi f c me vs) := by
  have hJ' : ∀ j ∈ J, j ∈ vs := fun j m => by simpa using List.all_eq_true.mp hJ j m
  intro P e σ ρ ws os H Q s gg
  refine hi P e σ ρ ws os H _ s ?_
  unfold mLcN at gg
  cases e1 : mi ρ with
  | exc x ρ1 => rw [e1] at gg; exact gg
  | bad => rw [e1] at gg; exact gg
  | ok ds ρ1 =>
    rw [e1] at gg
    simp only at gg
    intro It F H1 S1 S2 s1 W D hD
    let e' : Ent := ⟨F, H1, S1 ++ S2⟩
    have f0 : Fr e F H1 (S1 ++ S2) := s1.fr
    cases e2 : lcGoN f c me vs ds [] (wipeO ρ1 vs) with
    | exc x ρ2 => rw [e2] at gg; exact gg.elim
    | bad => rw [e2] at gg; exact gg.elim
    | ok ys ρ2 =>
      rw [e2] at gg
      simp only at gg
      have rewipe : ∀ {σ2 : L2.St} {ρ2 : List O} {zs : List V} {xs : List O} {H2 : Hp}, St k [] e' σ2 ρ2 zs xs H2 → L2.wipe σ2 vs = L2.wipe σ vs → St k [] e' (L2.wipe σ vs) (wipeO ρ2 vs) zs xs H2 := fun {σ2 ρ2 zs xs H2} s ew => by
        obtain ⟨F2, T1, T2, env, tmp, fr, _⟩ := s
        obtain ⟨T', m, q⟩ := env.wipeS vs
        rw [ew] at q
        exact ⟨F2, T', T2, q, tmp, fr.sub (List.Sublist.append m (.refl _)), fun p m => by cases m⟩
      have sD : St k [] e' (L2.wipe σ vs) (wipeO ρ1 vs) (.ref D :: ws) (.nst [] :: os) (upd H1 D (.lst [])) := by
        refine rewipe (σ2 := σ) ?_ rfl
        have s1' : StW k [] e' σ ρ1 ws os F H1 S1 S2 := ⟨s1.env, s1.tmp, s1.fr.refl, fun p m => by cases m⟩
        exact s1'.pushN hD (fun _ _ z => by cases z) (.nst (S := []) (.inl upd_same) .nil)
      refine ⟨fun i m H => m = ds.length - i ∧ i ≤ ds.length ∧ ∃ acc ρi, St k [] e' (L2.wipe σ vs) ρi (.ref D :: ws) (.nst acc :: os) H ∧ lcGoN f c me vs (ds.drop i) acc ρi = .ok ys ρ2, ⟨_, rfl, Nat.zero_le _, [], _, sD, by simpa using e2⟩, ?_⟩
      rintro i m H2 ⟨rfl, hi2, acc, ρi, s2, g2⟩
      by_cases hlt : i < ds.length
      · obtain ⟨F2, T1, T2, s2⟩ := s2
        refine .inr ⟨W.goes i F2 H2 hlt s2.fr.f0 s2.fr.fle, fun H' => i + 1 ≤ ds.length ∧ ∃ acc ρi, St k [] e' (L2.wipe σ vs) ρi (.ref D :: ws) (.nst acc :: os) H' ∧ lcGoN f c me vs (ds.drop (i + 1)) acc ρi = .ok ys ρ2, fun H' z => ⟨_, by omega, rfl, z.1, z.2⟩, fun x H3 y => ?_⟩
        obtain ⟨F3, x3, rx⟩ := W.yields i F2 H2 x H3 hlt s2.fr.f0 s2.fr.fle y
        rw [List.drop_eq_getElem_cons hlt] at g2
        unfold lcGoN at g2
        cases e6 : f ds[i] ρi with
        | none => rw [e6] at g2; cases g2
        | some ρ4 =>
          simp only [e6] at g2
          have s3 : StW k [] e' (L2.wipe σ vs) ρi (.ref D :: ws) (.nst acc :: os) F3 H3 T1 T2 := s2.xt x3
          refine hg F3 H3 _ ρi ρ4 T1 x ds[i] _ s3.qs rx e6 fun σ4 S' q' m' ag => ?_
          have ew : L2.wipe σ4 vs = L2.wipe σ vs := by rw [ag.wipe hJ']; exact wipe_wipe vs vs fun _ z => z
          have s4 : St k [] e' σ4 ρ4 (.ref D :: ws) (.nst acc :: os) H3 := ⟨F3, S', T2, q'.env, s3.tmp, s3.fr.sub (List.Sublist.append m' (.refl _)), fun p m => by cases m⟩
          refine ⟨ew, ht [] e' σ4 ρ4 _ _ H3 _ s4 ?_⟩
          cases e7 : c ρ4 with
          | exc x5 ρ5 => simp only [e7] at g2; cases g2
          | bad => simp only [e7] at g2; cases g2
          | ok b ρ5 =>
            simp only [e7] at g2
            intro H5 s5
            cases b with
            | false =>
              rw [if_neg (by decide)]
              exact ⟨hlt, acc, _, rewipe s5 ew, g2⟩
            | true =>
              rw [if_pos rfl]
              simp only at g2
              refine he [] e' σ4 ρ5 _ _ H5 _ s5 ?_
              cases e8 : me ρ5 with
              | exc x6 ρ6 => simp only [e8] at g2; cases g2
              | bad => simp only [e8] at g2; cases g2
              | ok o6 ρ6 =>
                simp only [e8] at g2
                intro v H6 s6
                split at g2
                · rename_i hz
                  obtain ⟨zs, z1, z2, z3⟩ := s6.growN
                  exact ⟨zs, z1, by omega, hlt, acc ++ [o6], _, rewipe z3 ew, g2⟩
                · cases g2
      · have ei : i = ds.length := by omega
        subst ei
        obtain ⟨F2, T1, T2, s2⟩ := s2
        refine .inl ⟨W.stops F2 H2 s2.fr.f0 s2.fr.fle, ?_⟩
        rw [List.drop_length] at g2
        unfold lcGoN at g2
        cases g2
        exact gg (.ref D) H2 ⟨F2, T1, T2, s2.env.unwipe, s2.tmp, f0.trans s2.fr, s1.pin⟩
/-- x[j].method(..), x one's own list of lists -/
def mMtI (i : Nat) (qi : QE) (f : List PD → List PD → Option (PD × List PD)) (qs : List O → Option (List O)) : M O := fun ρ => match qVar i ρ with
  | some (.nst ls) => match qi ρ with
    | some (.fz (.int j)) => if 0 ≤ j then match ls[j.toNat]? with
        | some (.lst ds) => match qs ρ with
          | some xs => match fzs xs with
            | some zs => match f ds zs with
              | some r => .ok (.fz r.1) (ρ.set i (.nst (ls.set j.toNat (.lst r.2))))
              | none => .bad
            | none => .bad
          | none => .bad
        | _ => .bad
      else .bad
    | _ => .bad
  | _ => .bad
theorem tem_mtI {i : Nat} {ti : TE} {qi : QE} {r : V → List V → Hp → VK → Prop} {f : List PD → List PD → Option (PD × List PD)} {ta : TA} {qs : List O → Option (List O)} (hi : TEv k ti qi) (h : TAv k ta qs) (hr : LstM k r f) : TEm k E (tBM k.K "list" r (tOp (rIxU k.K) (tVar i) ti) ta) (mMtI i qi f qs) := by
  intro P e σ ρ vs os H Q s g
  unfold mMtI at g
  split at g
  · rename_i ls e0
    split at g
    · rename_i j ej
      split at g
      · rename_i hj
        split at g
        · rename_i ds e1
          split at g
          · rename_i xs e2
            split at g
            · rename_i zs e3
              cases e4 : f ds zs with
              | none => rw [e4] at g; exact g.elim
              | some rr =>
                rw [e4] at g
                obtain ⟨F, S1, S2, s⟩ := s
                obtain ⟨b, us, a, ws, a1, a2, a3, a4, a5, a6⟩ := s.nstAt e0 e1
                refine ⟨.ref b, a1, hi F H σ ρ S1 _ _ s.qs ej fun w F0 H0 x0 w0 => ?_⟩
                have ew := w0.int
                subst ew
                have s0 := s.xt x0
                have ha0 : H0 a = some (.lst ws) := x0.ex _ _ a4
                refine .inl (.inl ⟨b, us, j, .ref a, rfl, rfl, .inl (rd_sub x0.ex a2), by rw [atI_nn hj]; exact a3, ⟨.inl ⟨rfl, ws, .inl (.inl ha0)⟩, ?_⟩⟩)
                refine h F0 H0 σ ρ S1 xs _ s0.qs e2 fun us1 F1 H1 x1 w1 => ?_
                have s2 := s0.xt x1
                obtain ⟨b', us', a', ws2, b1, b2, b3, b4, b5, b6⟩ := s2.nstAt e0 e1
                rw [a1] at b1
                cases b1
                have eus : us' = us := by
                  have q1 := rd_sub x1.ex (rd_sub x0.ex a2)
                  exact rd_inj b2 q1
                subst eus
                rw [a3] at b3
                cases b3
                have ru := w1.fzs e3
                refine hr F1 H1 a ws2 ds us1 zs rr.1 rr.2 Q s2.fr.fle b4 b5 ru e4 fun v vs' rv rd => ?_
                obtain ⟨U, s5⟩ := b6 vs' rr.2 rv
                exact g v _ ⟨F1, U, [] ++ S2, s5.env, .cons (.fz rd) s5.tmp, s5.fr, s5.pin⟩
            · exact g.elim
          · exact g.elim
        · exact g.elim
      · exact g.elim
    · exact g.elim
  · exact g.elim
/-! ### d.get(k); list.index of truths -/
def oGet1 (x y : O) : Option O := (oLook x y).map fun r => .fz (r.getD .none)
theorem tev_get1 {td ty : TE} {qa qb : QE} (ha : TEv k td qa) (hb : TEv k ty qb) : TEv k (tDGet1 td ty) (qOp oGet1 qa qb) := by
  intro F H σ ρ S o Q q e h
  unfold qOp at e
  cases e1 : qa ρ with
  | none => rw [e1] at e; cases e
  | some x =>
    rw [e1] at e
    cases e2 : qb ρ with
    | none => simp only [e2] at e; cases e
    | some y =>
      simp only [e2] at e
      unfold oGet1 at e
      obtain ⟨r, e3, e4⟩ := Option.map_eq_some_iff.mp e
      subst e4
      refine ha F H σ ρ S x _ q e1 fun v F1 H1 x1 w1 => ?_
      have isd : ∃ a, v = .ref a ∧ IsD H1 a := by
        unfold oLook at e3
        split at e3
        · rename_i ds kk e5 e6
          obtain ⟨a, vs, rfl, h1, h2⟩ := w1.dicK x1.fle e5
          exact ⟨a, rfl, .inl ⟨_, h1⟩⟩
        · split at e3
          · rename_i ds kk e5 e6
            obtain ⟨a, vs, rfl, h1, h2⟩ := w1.dicT x1.fle e5
            exact ⟨a, rfl, .inr ⟨_, h1⟩⟩
          · cases e3
      obtain ⟨a, rfl, isd⟩ := isd
      refine ⟨a, rfl, isd, hb F1 H1 σ ρ S _ _ (q.xt x1) e2 fun w F2 H2 x2 w2 => ?_⟩
      obtain ⟨a', z, ea, g, r2⟩ := look_ok (w1.xt x2) w2 x2.fle e3
      cases ea
      refine ⟨z, g, ?_⟩
      rcases r2 with ⟨r2, r3⟩ | ⟨d, v, r2, r3, r4⟩
      · subst r2 r3
        exact h _ F2 H2 (x1.trans x2) (.fz .non)
      · subst r2 r3
        exact h _ F2 H2 (x1.trans x2) (.fz r4)
def fstB (b : Bool) : List Bool → Option Nat
  | [] => none
  | x :: r => if x = b then some 0 else (fstB b r).map (· + 1)
theorem fstB_is {b : Bool} : ∀ {l : List Bool} {j : Nat}, fstB b l = some j → l[j]? = some b ∧ ∀ m, m < j → l[m]? ≠ some b
  | [], _, e => by cases e
  | x :: r, j, e => by
    unfold fstB at e
    split at e
    · rename_i c
      cases e
      exact ⟨by rw [c]; rfl, fun m hm => by omega⟩
    · rename_i c
      obtain ⟨i, e1, e2⟩ := Option.map_eq_some_iff.mp e
      subst e2
      obtain ⟨h1, h2⟩ := fstB_is e1
      refine ⟨by simpa using h1, fun m hm => ?_⟩
      cases m with
      | zero => simpa using c
      | succ m => simpa using h2 m (by omega)
def oIdxB (x y : O) : Option O := match seqL x, y with
  | some ds, .fz (.bool b) => match boolsD ds with
    | some ns => match fstB b ns with
      | some j => some (.fz (.int ((j : Nat) : Int)))
      | none => none
    | none => none
  | _, _ => none
theorem flat_bools : ∀ (ns : List Bool), (ns.map V.bl).all flatV = true
  | [] => rfl
  | n :: r => by
    rw [List.map_cons, List.all_cons, flat_bools r]
    rfl
theorem tev_idxB {ta tb : TE} {qa qb : QE} (ha : TEv k ta qa) (hb : TEv k tb qb) : TEv k (tBM k.K "list" (rIndex k.K) ta (tCons tb tNil)) (qOp oIdxB qa qb) := by
  intro F H σ ρ S o Q q e h
  unfold qOp at e
  cases e1 : qa ρ with
  | none => rw [e1] at e; cases e
  | some x =>
    rw [e1] at e
    cases e2 : qb ρ with
    | none => simp only [e2] at e; cases e
    | some y =>
      simp only [e2] at e
      unfold oIdxB at e
      split at e
      · rename_i ds b es
        split at e
        · rename_i ns en
          split at e
          · rename_i j hj
            cases e
            refine ha F H σ ρ S x _ q e1 fun v F1 H1 x1 w1 => ?_
            obtain ⟨a, vs, rfl, g1, g2⟩ := w1.seqL x1.fle es
            refine ⟨.inl ⟨rfl, vs, g1⟩, ?_⟩
            refine hb F1 H1 σ ρ S _ _ (q.xt x1) e2 fun w F2 H2 x2 w2 => ?_
            obtain ⟨a2, vs2, ee, g3, g4⟩ := (w1.xt x2).seqL x2.fle es
            cases ee
            have hw : w = .bl b := by
              have r := w2.rep
              cases r with
              | bl => rfl
              | dic _ _ e => cases e
              | dit _ _ e => cases e
            subst hw
            have e3 := boolsD_eq en
            subst e3
            rw [reps_bools g4] at g3
            obtain ⟨h1, h2⟩ := fstB_is hj
            refine ⟨a, ns.map V.bl, .bl b, j, .bl b, rfl, rfl, g3, rfl, flat_bools ns, by rw [List.getElem?_map, h1]; rfl, by simp [eqV], fun m z' hm hz => ?_, h _ F2 H2 (x1.trans x2) (.fz (.int _))⟩
            rw [List.getElem?_map] at hz
            obtain ⟨n, hn, rfl⟩ := Option.map_eq_some_iff.mp hz
            have : n ≠ b := fun e => h2 m hm (by rw [hn, e])
            simp [eqV, this]
          · cases e
        · cases e
      · cases e
@[simp] theorem oIdxB_l {l : List Bool} {b : Bool} : oIdxB (.fz (.list (l.map .bool))) (.fz (.bool b)) = match fstB b l with
      | some j => some (.fz (.int ((j : Nat) : Int)))
      | none => none := by
  have e : boolsD (l.map PyData.bool) = some l := boolsD_map l
  unfold oIdxB
  show (match boolsD (l.map PyData.bool) with | some ns => _ | none => none) = _
  rw [e]
@[simp] theorem oIdxB_o {l : List Bool} {b : Bool} : oIdxB (.lst (l.map .bool)) (.fz (.bool b)) = match fstB b l with
      | some j => some (.fz (.int ((j : Nat) : Int)))
      | none => none := by
  have e : boolsD (l.map PyData.bool) = some l := boolsD_map l
  unfold oIdxB
  show (match boolsD (l.map PyData.bool) with | some ns => _ | none => none) = _
  rw [e]
end
end FM
namespace FM
open PySem PySem.Spec L2 PyProof.Rows
open PySem.W (dataLt alike)
section
variable {k : Kc} {E : XK}
/-! ### a method of an element of a field's own list of lists -/
theorem StW.fldNL {P : List (Nat × V)} {e : Ent} {σ : L2.St} {ρ : List O} {vs : List V} {os ls : List O} {F H : Hp} {S1 S2 : List Addr} {i c j : Nat} {x : Str} {fs : List (Str × O)} {ds : List PD} (s : StW k P e σ ρ vs os F H S1 S2) (e0 : qVar i ρ = some (.ins c fs)) (e1 : fs.lookup x = some (.nst ls)) (e2 : ls[j]? = some (.lst ds)) :
    ∃ a dx ws b us p qs, σ[i]? = some (some (.ref a)) ∧ H a = some (.ins (k.cl c) dx ws) ∧ ws.lookup x = some (.ref b) ∧ Rd H b (.lst us) ∧ us[j]? = some (.ref p) ∧ H p = some (.lst qs) ∧ Reps k.K F qs ds ∧
      ∀ qs' ds', Reps k.K F qs' ds' → ∃ U, StW k P e σ (ρ.set i (.ins c (pfO x (.nst (ls.set j (.lst ds'))) fs))) vs os F (upd H p (.lst qs')) U S2 := by
  obtain ⟨env, tmp, fr, pin⟩ := s
  obtain ⟨g1, g2⟩ := qVar_some e0
  obtain ⟨v, T, R, a1, a2, a3, a4⟩ := env.take g1 g2
  cases a2 with
  | @ins d dx _ es _ T2 hd hk =>
    obtain ⟨v, T3, R3, k1, k2, k3, k4⟩ := hk.take e1
    cases k2 with
    | @nst b us _ T4 h r =>
      obtain ⟨w, T5, R5, n1, n2, n3, n4⟩ := r.takeAt e2
      cases n2 with
      | @lst p qs _ hl rd =>
        have fr2 : Fr e F H (p :: b :: d :: (R5 ++ (R3 ++ (R ++ S2)))) := Sbp.fr fr (.of_count fun z => by
          have c2 := a4.count_eq z
          have c3 := k4.count_eq z
          have c4 := n4.count_eq z
          simp only [List.count_append, List.count_cons, List.count_nil] at c2 c3 c4 ⊢
          omega)
        have hp : H p = some (.lst qs) := by
          rcases hl with h | ⟨ob, h⟩
          · exact h
          · exact (fr2.nofz p List.mem_cons_self ob _ h).elim
        refine ⟨d, dx, es, b, us, p, qs, a1, hd, k1, h, n1, hp, rd, fun qs' ds' r' => ?_⟩
        have nd := List.nodup_cons.mp fr2.nd
        have keep : ∀ U : List Addr, (∀ z ∈ U, z ∈ b :: d :: (R5 ++ (R3 ++ (R ++ S2)))) → At U H (upd H p (.lst qs')) := fun U m z mz u q => by
          rw [upd_ne (fun w => nd.1 (by rw [← w]; exact m z mz))]
          exact q
        have fw := fr2.write (a := p) (o := .lst qs') List.mem_cons_self (fun _ _ z => by cases z)
        have env3 := a3.mono (Same.refl F) (keep R fun z m => by simp only [List.mem_cons, List.mem_append]; exact .inr (.inr (.inr (.inr (.inl m)))))
        have tmp3 := tmp.mono (Same.refl F) (keep S2 fun z m => by simp only [List.mem_cons, List.mem_append]; exact .inr (.inr (.inr (.inr (.inr m)))))
        have hk3 := k3.mono (Same.refl F) (keep R3 fun z m => by simp only [List.mem_cons, List.mem_append]; exact .inr (.inr (.inr (.inl m))))
        have hn3 := n3.mono (Same.refl F) (keep R5 fun z m => by simp only [List.mem_cons, List.mem_append]; exact .inr (.inr (.inl m)))
        have hnb : b ≠ p := fun q => nd.1 (by rw [← q]; simp)
        have hnd : d ≠ p := fun q => nd.1 (by rw [← q]; simp)
        have hb2 : Rd (upd H p (.lst qs')) b (.lst us) := by
          rcases h with h | ⟨ob, h⟩
          · exact .inl (by rw [upd_ne hnb]; exact h)
          · exact .inr ⟨ob, by rw [upd_ne hnb]; exact h⟩
        obtain ⟨U5, m5, q5⟩ := hn3.putAt (j := j) (Own.lst (k := k) (F := F) (.inl upd_same) r') n1
        rw [List.set_set] at q5
        obtain ⟨U3, m3, q3⟩ := hk3.put (x := x) (Own.nst (k := k) (F := F) hb2 q5)
        rw [pfO_pfO, putF_same k1] at q3
        obtain ⟨U, mU, q⟩ := env3.put (i := i) a1 (Own.ins (k := k) (F := F) (by rw [upd_ne hnd]; exact hd) q3)
        rw [List.set_set] at q
        exact ⟨U, q, tmp3, Sbp.fr fw (.of_count fun z => by
          have h1 := mU.count z
          have h2 := m3 z
          have h3 := m5 z
          simp only [List.count_append, List.count_cons, List.count_nil] at h1 h2 h3 ⊢
          omega), pin⟩
def mMtFI (c i : Nat) (x : Str) (qi : QE) (f : List PD → List PD → Option (PD × List PD)) (qs : List O → Option (List O)) : M O := fun ρ => match qVar i ρ with
  | some (.ins c' fs) => if c' = c then match fs.lookup x with
    | some (.nst ls) => match qi ρ with
      | some (.fz (.int j)) => if 0 ≤ j then match ls[j.toNat]? with
          | some (.lst ds) => match qs ρ with
            | some xs => match fzs xs with
              | some zs => match f ds zs with
                | some r => .ok (.fz r.1) (ρ.set i (.ins c (pfO x (.nst (ls.set j.toNat (.lst r.2))) fs)))
                | none => .bad
              | none => .bad
            | none => .bad
          | _ => .bad
        else .bad
      | _ => .bad
    | _ => .bad
    else .bad
  | _ => .bad
theorem tem_mtFI {c i : Nat} {x : Str} {ti : TE} {qi : QE} {r : V → List V → Hp → VK → Prop} {f : List PD → List PD → Option (PD × List PD)} {ta : TA} {qs : List O → Option (List O)} (hc : Cls k.K (k.cl c)) (hn : NoAttr k.K (k.cl c) x) (hi : TEv k ti qi) (h : TAv k ta qs) (hr : LstM k r f) :
    TEm k E (tBM k.K "list" r (tOp (rIxU k.K) (tFld k.K (tVar i) x) ti) ta) (mMtFI c i x qi f qs) := by
  intro P e σ ρ vs os H Q s g
  unfold mMtFI at g
  split at g
  · rename_i c' fs e0
    split at g
    · rename_i ec
      subst ec
      split at g
      · rename_i ls e1
        split at g
        · rename_i j ej
          split at g
          · rename_i hj
            split at g
            · rename_i ds e2
              split at g
              · rename_i xs e3
                split at g
                · rename_i zs e4
                  cases e5 : f ds zs with
                  | none => rw [e5] at g; exact g.elim
                  | some rr =>
                    rw [e5] at g
                    obtain ⟨F, S1, S2, s⟩ := s
                    obtain ⟨a, dx, ws, b, us, p, qq, a1, a2, a3, a4, a5, a6, a7, _⟩ := s.fldNL e0 e1 e2
                    refine ⟨.ref a, a1, a, _, dx, ws, .ref b, rfl, a2, hc, hn, a3, hi F H σ ρ S1 _ _ s.qs ej fun w F0 H0 x0 w0 => ?_⟩
                    have ew := w0.int
                    subst ew
                    have s0 := s.xt x0
                    have hp0 : H0 p = some (.lst qq) := x0.ex _ _ a6
                    refine .inl (.inl ⟨b, us, j, .ref p, rfl, rfl, .inl (rd_sub x0.ex a4), by rw [atI_nn hj]; exact a5, ⟨.inl ⟨rfl, qq, .inl (.inl hp0)⟩, ?_⟩⟩)
                    refine h F0 H0 σ ρ S1 xs _ s0.qs e3 fun us1 F1 H1 x1 w1 => ?_
                    have s2 := s0.xt x1
                    obtain ⟨a', dx', ws', b', us', p', qs2, b1, b2, b3, b4, b5, b6, b7, b8⟩ := s2.fldNL e0 e1 e2
                    rw [a1] at b1
                    cases b1
                    rw [x1.ex _ _ (x0.ex _ _ a2)] at b2
                    cases b2
                    rw [a3] at b3
                    cases b3
                    have eus : us' = us := rd_inj b4 (rd_sub x1.ex (rd_sub x0.ex a4))
                    subst eus
                    rw [a5] at b5
                    cases b5
                    have ru := w1.fzs e4
                    refine hr F1 H1 p qs2 ds us1 zs rr.1 rr.2 Q s2.fr.fle b6 b7 ru e5 fun v vs' rv rd => ?_
                    obtain ⟨U, s5⟩ := b8 vs' rr.2 rv
                    exact g v _ ⟨F1, U, [] ++ S2, s5.env, .cons (.fz rd) s5.tmp, s5.fr, s5.pin⟩
                · exact g.elim
              · exact g.elim
            · exact g.elim
          · exact g.elim
        · exact g.elim
      · exact g.elim
    · exact g.elim
  · exact g.elim
/-! ### max(.., default=..), the list with effects -/
def mMaxD (m : M (List O)) (d : PD) : M O := fun ρ => match m ρ with
  | .ok xs ρ1 => match fzs xs with
    | some ds => match oMaxD (ds.map .fz) [.fz d] with
      | some (.fz r) => .ok (.fz r) ρ1
      | _ => .bad
    | none => .bad
  | .exc x ρ1 => .exc x ρ1
  | .bad => .bad
theorem tem_maxD {t : TA} {as : List (Option Nat)} {m : M (List O)} {i : Int} (h : TAm k E t as m) : TEm k E (tCKw (rMaxD k.K) t (tCons (tC (.int i)) tNil)) (mMaxD m (.int i)) := by
  intro P e σ ρ vs os H Q s g
  refine h P e σ ρ vs os H _ s ?_
  unfold mMaxD at g
  cases e1 : m ρ with
  | exc x ρ1 => rw [e1] at g; exact g
  | bad => rw [e1] at g; exact g
  | ok xs ρ1 =>
    rw [e1] at g
    simp only at g
    intro ws H1 s1 hl _
    obtain ⟨F, S1, S2, s1⟩ := s1
    split at g
    · rename_i ds e2
      obtain ⟨r1, s2⟩ := St.splitFz s1 hl e2
      split at g
      · rename_i d e3
        unfold oMaxD at e3
        show rMaxD k.K ws [.int i] H1 _
        split at e3
        · rename_i x d' eq1 eq2
          cases eq2
          split at e3
          · rename_i zs es
            cases r1 with
            | nil => cases eq1
            | @cons v0 d0 vs0 ds0 r0 rr =>
              cases ds0 with
              | cons _ _ => cases eq1
              | nil =>
                cases rr
                cases eq1
                have vw : Vw k F H1 [] v0 (.fz d0) := .fz r0
                obtain ⟨a, us, rfl, g1, g2⟩ := vw.seqL s2.fr.fle es
                split at e3
                · rename_i en
                  cases e3
                  have e4 := intsD_eq en
                  subst e4
                  rw [reps_ints g2] at g1
                  exact ⟨a, [], .int i, rfl, rfl, g1, fun _ => g _ H1 ⟨F, S1, [] ++ S2, s2.push (Xt.refl s2.fr.fle) (.fz (.int _)) ⟨.nil, (fun a m => by cases m), (fun a m => by cases m), (fun a m => by cases m)⟩⟩, fun n r z => by cases z⟩
                · rename_i n r en
                  cases e3
                  have e4 := intsD_eq en
                  subst e4
                  rw [reps_ints g2] at g1
                  refine ⟨a, n :: r, .int i, rfl, rfl, g1, (fun z => by cases z), fun n' r' z => ?_⟩
                  cases z
                  exact g _ H1 ⟨F, S1, [] ++ S2, s2.push (Xt.refl s2.fr.fle) (.fz (.int _)) ⟨.nil, (fun a m => by cases m), (fun a m => by cases m), (fun a m => by cases m)⟩⟩
                · cases e3
          · cases e3
        · cases e3
      · exact g.elim
    · exact g.elim
/-! ### dict(d) -/
def rDictC : List V → Hp → VK → Prop := fun xs H Q => ∃ (a : Addr) (kvs : List (Key × V)), xs = [.ref a] ∧ Rd H a (.dK kvs) ∧ ∀ p, H p = none → Q (.ref p) (upd H p (.dK kvs))
theorem call_dictC {X : Cx} : CallR X (.type "dict") rDictC := call_dictD
def oDictC : List O → Option O
  | [x] => (dicK x).map .dic
  | _ => none
theorem own_dicK {F H : Hp} {vs : List (Key × V)} {ds : List (Key × PD)} {Q : VK} (f : FLe F H) (r : RepK k.K F vs ds) (h : ∀ v F' H' T, Xt F H F' H' → Own k F' H' v (.dic ds) T → Fresh F' H H' T → Q v H') : ∀ p, H p = none → Q (.ref p) (upd H p (.dK vs)) := fun p hp =>
  have x := Xt.own (o := .dK vs) f hp
  h _ _ _ [p] x (.dic (.inl upd_same) r) ⟨List.nodup_cons.mpr ⟨List.not_mem_nil, .nil⟩, (fun a m => by rw [List.mem_singleton.mp m]; exact hp), (fun a m => by rw [List.mem_singleton.mp m]; exact fle_none f hp), (fun a m o u z => by rw [List.mem_singleton.mp m, upd_same] at z; cases z)⟩
theorem cn_dict : CbN k rDictC oDictC := by
  intro F H S xs os o Q f off th ws e h
  unfold oDictC at e
  split at e
  · cases ws with
    | cons w ws =>
      cases ws
      obtain ⟨ds, es, eo⟩ := Option.map_eq_some_iff.mp e
      subst eo
      obtain ⟨a, vs, rfl, g1, g2⟩ := w.dicK f es
      exact ⟨a, vs, rfl, g1, own_dicK f g2 h⟩
  · cases e
/-! ### a > b of alike data -/
def rGtX (K : Frag) : R2 := fun x y H Q => ∃ da db, Dp K H x da ∧ Dp K H y db ∧ alike da db = true ∧ da ≠ .none ∧ da.depth ≤ 40 ∧ Q (.bl (dataLt db da)) H
theorem op_gtX {X : Cx} (hu : X.A.units + 64 < cLine) : OpR X (compareOp .Gt) (rGtX X.K) := by
  intro pins s σ H x y v u Q I rx ry h
  obtain ⟨da, db, h1, h2, h3, h4, h5, q⟩ := h
  obtain ⟨as, ra⟩ := Dp.reads I da x v h1 rx
  obtain ⟨bs, rb⟩ := Dp.reads I db y u h2 ry
  exact PySem.W.gt_data ra rb h3 h4 (by omega) ⟨.bl (dataLt db da), H, I, rfl, q⟩
def oGtX (x y : O) : Option O := match x, y with
  | .fz da, .fz db => if alike da db = true ∧ da.canLay0 = true ∧ db.canLay0 = true ∧ tupC da = true ∧ da.depth ≤ 40 then some (.fz (.bool (dataLt db da))) else none
  | _, _ => none
theorem ov_gtX : OpV k (rGtX k.K) oGtX := by
  intro F H S x y ox oy o Q f off th wx wy e h
  unfold oGtX at e
  split at e
  · rename_i da db
    split at e
    · rename_i hz
      obtain ⟨z1, z2, z3, z4, z5⟩ := hz
      cases e
      exact ⟨da, db, (wx.rep.le f).dp z2, (wy.rep.le f).dp z3, z1, (fun z => by subst z; cases z4), z5, h _ F H (Xt.refl f) (.fz (.bl _))⟩
    · cases e
  · cases e
/-! ### a field of a slot's instance, taken out -/
def mMoveF (c i : Nat) (x : Str) : M O := fun ρ => match qVar i ρ with
  | some (.ins c' fs) => if c' = c then match fs.lookup x with
      | some .dead => .bad
      | some o => .ok o (ρ.set i (.ins c (pfO x .dead fs)))
      | none => .bad
    else .bad
  | _ => .bad
theorem tem_moveF {c i : Nat} {x : Str} (hc : Cls k.K (k.cl c)) (hn : NoAttr k.K (k.cl c) x) : TEm k E (tFld k.K (tVar i) x) (mMoveF c i x) := by
  intro P e σ ρ vs os H Q s g
  unfold mMoveF at g
  split at g
  · rename_i c' fs e0
    split at g
    · rename_i ec
      subst ec
      split at g
      · exact g.elim
      · rename_i o hdead e1
        obtain ⟨F, S1, S2, env, tmp, fr, pin⟩ := s
        obtain ⟨g1, g2⟩ := qVar_some e0
        obtain ⟨v, T, R, a1, a2, a3, a4⟩ := env.take g1 g2
        cases a2 with
        | @ins d dx _ es _ T2 hd hk =>
          obtain ⟨v, T3, R3, k1, k2, k3, k4⟩ := hk.take e1
          obtain ⟨U, mU, q⟩ := a3.put (i := i) a1 (Own.ins (k := k) (F := F) hd k3)
          rw [List.set_set] at q
          refine ⟨.ref d, a1, d, _, dx, es, v, rfl, hd, hc, hn, k1, g v H ⟨F, U, T3 ++ S2, q, .cons k2 tmp, Sbp.fr fr (.of_count fun z => ?_), pin⟩⟩
          have c2 := a4.count_eq z
          have c3 := k4.count_eq z
          have h1 := mU.count z
          simp only [List.count_append, List.count_cons, List.count_nil] at h1 c2 c3 ⊢
          omega
      · exact g.elim
    · exact g.elim
  · exact g.elim
/-! ### a method of an element of one's own tuple -/
theorem StW.ntpAt {P : List (Nat × V)} {e : Ent} {σ : L2.St} {ρ : List O} {vs : List V} {os ls : List O} {F H : Hp} {S1 S2 : List Addr} {i j : Nat} {ds : List PD} (s : StW k P e σ ρ vs os F H S1 S2) (e0 : qVar i ρ = some (.ntp ls)) (e1 : ls[j]? = some (.lst ds)) :
    ∃ b us a ws, σ[i]? = some (some (.ref b)) ∧ H b = some (.tup us) ∧ us[j]? = some (.ref a) ∧ H a = some (.lst ws) ∧ Reps k.K F ws ds ∧
      ∀ ws' ds', Reps k.K F ws' ds' → ∃ U, StW k P e σ (ρ.set i (.ntp (ls.set j (.lst ds')))) vs os F (upd H a (.lst ws')) U S2 := by
  obtain ⟨env, tmp, fr, pin⟩ := s
  obtain ⟨g1, g2⟩ := qVar_some e0
  obtain ⟨w, T, R, a1, a2, a3, a4⟩ := env.take g1 g2
  cases a2 with
  | @ntp b us _ T4 h hg r =>
    obtain ⟨w, T5, R5, n1, n2, n3, n4⟩ := r.takeAt e1
    cases n2 with
    | @lst a ws _ hl rd =>
      have fr2 : Fr e F H (a :: b :: (R5 ++ (R ++ S2))) := Sbp.fr fr (.of_count fun z => by
        have c2 := a4.count_eq z
        have c4 := n4.count_eq z
        simp only [List.count_append, List.count_cons, List.count_nil] at c2 c4 ⊢
        omega)
      have ha : H a = some (.lst ws) := by
        rcases hl with h | ⟨ob, h⟩
        · exact h
        · exact (fr2.nofz a List.mem_cons_self ob _ h).elim
      refine ⟨b, us, a, ws, a1, h, n1, ha, rd, fun ws' ds' r' => ?_⟩
      have nd := List.nodup_cons.mp fr2.nd
      have keep : ∀ U : List Addr, (∀ z ∈ U, z ∈ b :: (R5 ++ (R ++ S2))) → At U H (upd H a (.lst ws')) := fun U m z mz u q => by
        rw [upd_ne (fun w => nd.1 (by rw [← w]; exact m z mz))]
        exact q
      have fw := fr2.write (a := a) (o := .lst ws') List.mem_cons_self (fun _ _ z => by cases z)
      have env3 := a3.mono (Same.refl F) (keep R fun z m => by simp only [List.mem_cons, List.mem_append]; exact .inr (.inr (.inl m)))
      have tmp3 := tmp.mono (Same.refl F) (keep S2 fun z m => by simp only [List.mem_cons, List.mem_append]; exact .inr (.inr (.inr m)))
      have hr3 := n3.mono (Same.refl F) (keep R5 fun z m => by simp only [List.mem_cons, List.mem_append]; exact .inr (.inl m))
      have hnb : b ≠ a := fun q => nd.1 (by rw [← q]; simp)
      obtain ⟨U5, m5, q5⟩ := hr3.putAt (j := j) (Own.lst (k := k) (F := F) (.inl upd_same) r') n1
      rw [List.set_set] at q5
      obtain ⟨U, mU, q⟩ := env3.put (i := i) a1 (Own.ntp (k := k) (F := F) (by rw [upd_ne hnb]; exact h) hg q5)
      rw [List.set_set] at q
      exact ⟨U, q, tmp3, Sbp.fr fw (.of_count fun z => by
        have h1 := mU.count z
        have h3 := m5 z
        simp only [List.count_append, List.count_cons, List.count_nil] at h1 h3 ⊢
        omega), pin⟩
def mMtT (i : Nat) (j : Nat) (f : List PD → List PD → Option (PD × List PD)) (qs : List O → Option (List O)) : M O := fun ρ => match qVar i ρ with
  | some (.ntp ls) => match ls[j]? with
    | some (.lst ds) => match qs ρ with
      | some xs => match fzs xs with
        | some zs => match f ds zs with
          | some r => .ok (.fz r.1) (ρ.set i (.ntp (ls.set j (.lst r.2))))
          | none => .bad
        | none => .bad
      | none => .bad
    | _ => .bad
  | _ => .bad
theorem tem_mtT {i j : Nat} {r : V → List V → Hp → VK → Prop} {f : List PD → List PD → Option (PD × List PD)} {ta : TA} {qs : List O → Option (List O)} (h : TAv k ta qs) (hr : LstM k r f) : TEm k E (tBM k.K "list" r (tOp (rIxU k.K) (tVar i) (tC (.int (j : Nat)))) ta) (mMtT i j f qs) := by
  intro P e σ ρ vs os H Q s g
  unfold mMtT at g
  split at g
  · rename_i ls e0
    split at g
    · rename_i ds e1
      split at g
      · rename_i xs e2
        split at g
        · rename_i zs e3
          cases e4 : f ds zs with
          | none => rw [e4] at g; exact g.elim
          | some rr =>
            rw [e4] at g
            obtain ⟨F, S1, S2, s⟩ := s
            obtain ⟨b, us, a, ws, a1, a2, a3, a4, a5, _⟩ := s.ntpAt e0 e1
            refine ⟨.ref b, a1, ?_⟩
            refine .inl (.inr (.inl ⟨b, us, j, .ref a, rfl, rfl, .of a2, by rw [atI_nn (Int.natCast_nonneg j)]; exact a3, ⟨.inl ⟨rfl, ws, .inl (.inl a4)⟩, ?_⟩⟩))
            refine h F H σ ρ S1 xs _ s.qs e2 fun us1 F1 H1 x1 w1 => ?_
            have s2 := s.xt x1
            obtain ⟨b', us', a', ws2, b1, b2, b3, b4, b5, b6⟩ := s2.ntpAt e0 e1
            rw [a1] at b1
            cases b1
            rw [x1.ex _ _ a2] at b2
            cases b2
            rw [a3] at b3
            cases b3
            have ru := w1.fzs e3
            refine hr F1 H1 a ws2 ds us1 zs rr.1 rr.2 Q s2.fr.fle b4 b5 ru e4 fun v vs' rv rd => ?_
            obtain ⟨U, s5⟩ := b6 vs' rr.2 rv
            exact g v _ ⟨F1, U, [] ++ S2, s5.env, .cons (.fz rd) s5.tmp, s5.fr, s5.pin⟩
        · exact g.elim
      · exact g.elim
    · exact g.elim
  · exact g.elim
end
end FM
namespace FM
open PySem PySem.Spec L2 PyProof.Rows
/-! ### simp words for FM63 -/
section
variable {ρ : List O} {Q : O → List O → Prop} {c i j : Nat} {x : Str} {ml : M (List O)}
theorem wM_mtFI {qi : QE} {f : List PD → List PD → Option (PD × List PD)} {qs : List O → Option (List O)} {fs : List (Str × O)} {ls xs : List O} {j : Int} {ds zs : List PD} {r : PD × List PD} (e0 : qVar i ρ = some (.ins c fs)) (e00 : fs.lookup x = some (.nst ls)) (e1 : qi ρ = some (.fz (.int j))) (hj : 0 ≤ j) (e2 : ls[j.toNat]? = some (.lst ds)) (e3 : qs ρ = some xs) (e4 : fzs xs = some zs) (e5 : f ds zs = some r)
    (g : Q (.fz r.1) (ρ.set i (.ins c (pfO x (.nst (ls.set j.toNat (.lst r.2))) fs)))) : wM (mMtFI c i x qi f qs ρ) Q := by
  unfold mMtFI
  simp only [e0, e00, e1, hj, if_true, e2, e3, e4, e5]
  exact g
@[simp] theorem wM_maxD {d : PD} : wM (mMaxD ml d ρ) Q = wM (ml ρ) fun xs ρ1 => ∃ ds, fzs xs = some ds ∧ ∃ r, oMaxD (ds.map .fz) [.fz d] = some (.fz r) ∧ Q (.fz r) ρ1 := by
  unfold mMaxD
  cases e : ml ρ with
  | ok xs ρ1 =>
    simp only [wM_ok]
    cases e2 : fzs xs with
    | none => simp [wM]
    | some ds =>
      cases e3 : oMaxD (ds.map .fz) [.fz d] with
      | none => simp [wM, e3]
      | some z => cases z <;> simp [wM, e3]
  | _ => rfl
theorem wM_moveF {fs : List (Str × O)} {o : O} (e0 : qVar i ρ = some (.ins c fs)) (e1 : fs.lookup x = some o) (hd : o ≠ .dead) (g : Q o (ρ.set i (.ins c (pfO x .dead fs)))) : wM (mMoveF c i x ρ) Q := by
  unfold mMoveF
  simp only [e0, if_true, e1]
  cases o with
  | dead => exact (hd rfl).elim
  | _ => exact g
theorem wM_mtT {f : List PD → List PD → Option (PD × List PD)} {qs : List O → Option (List O)} {ls xs : List O} {ds zs : List PD} {r : PD × List PD} (e0 : qVar i ρ = some (.ntp ls)) (e2 : ls[j]? = some (.lst ds)) (e3 : qs ρ = some xs) (e4 : fzs xs = some zs) (e5 : f ds zs = some r)
    (g : Q (.fz r.1) (ρ.set i (.ntp (ls.set j (.lst r.2))))) : wM (mMtT i j f qs ρ) Q := by
  unfold mMtT
  simp only [e0, e2, e3, e4, e5]
  exact g
end
@[simp] theorem oDictC_d {ds : List (Key × PD)} : oDictC [.dic ds] = some (.dic ds) := rfl
theorem oGtX_ii {a b c d : Int} : oGtX (.fz (.tuple [.int a, .int b])) (.fz (.tuple [.int c, .int d])) = some (.fz (.bool (decide (c < a ∨ (c = a ∧ d < b))))) := by
  show (if PySem.W.alike (PyData.tuple [.int a, .int b]) (PyData.tuple [.int c, .int d]) = true ∧ (PyData.tuple [.int a, .int b]).canLay0 = true ∧ (PyData.tuple [.int c, .int d]).canLay0 = true ∧ tupC (PyData.tuple [.int a, .int b]) = true ∧ (PyData.tuple [.int a, .int b]).depth ≤ 40 then some (O.fz (.bool (PySem.W.dataLt (PyData.tuple [.int c, .int d]) (PyData.tuple [.int a, .int b])))) else none) = _
  rw [if_pos (by simp [PySem.W.alike, PySem.W.alikeAll, PyData.canLay0, PyData.canLayAll0, tupC, PyData.depth, PyData.depthAll]), PySem.W.dataLt_ii]
@[simp] theorem oIx_nst {os : List O} {i : Int} : oIx (.nst os) (.fz (.int i)) = atI os i := rfl
@[simp] theorem oIx_ntp {os : List O} {i : Int} : oIx (.ntp os) (.fz (.int i)) = atI os i := rfl
theorem oIn_dic {ds : List (Key × PD)} {i : Int} : oIn (.fz (.int i)) (.dic ds) = some (.fz (.bool (lk ds (.inl i)).isSome)) := rfl
theorem oNin_dic {ds : List (Key × PD)} {i : Int} : oNin (.fz (.int i)) (.dic ds) = some (.fz (.bool (!(lk ds (.inl i)).isSome))) := rfl
theorem lk_kvI {l : List Int} {od : List Nat} {t : Nat} : (lk (kvI l od) (.inl (t : Int))).isSome = decide (t ∈ od) := by
  by_cases h : t ∈ od
  · rw [kvI_lk h]
    simp [h]
  · have : lk (kvI l od) (.inl (t : Int)) = none := by
      unfold lk
      have : (kvI l od).find? (fun p => decide (p.1 = Sum.inl (t : Int))) = none := List.find?_eq_none.mpr fun p m => by
        obtain ⟨u, mu, rfl⟩ := List.mem_map.mp m
        simp only [decide_eq_true_eq]
        intro e
        have := Sum.inl.inj e
        have : u = t := by omega
        exact h (this ▸ mu)
      first
        | rw [this]; rfl
        | simpa using this
    rw [this]
    simp [h]
end FM
namespace FM
open PySem PySem.Spec L2 PyProof.Rows
/-! ### list.extend by a list that is one's own -/
section
variable {k : Kc} {E : XK}
def mExt (i : Nat) (m : M (List O)) : M O := fun ρ => match qVar i ρ with
  | some (.lst _) => match m ρ with
    | .ok [.lst xs] ρ1 => match qVar i ρ1 with
      | some (.lst ds) => if ds.length + xs.length ≤ sizeLine then .ok (.fz .none) (ρ1.set i (.lst (ds ++ xs))) else .bad
      | _ => .bad
    | .ok _ _ => .bad
    | .exc x ρ1 => .exc x ρ1
    | .bad => .bad
  | _ => .bad
theorem tem_ext {i : Nat} {ta : TA} {as : List (Option Nat)} {m : M (List O)} (h : TAm k E ta as m) : TEm k E (tBM k.K "list" rExtend (tVar i) ta) (mExt i m) := by
  intro P e σ ρ vs os H Q s g
  unfold mExt at g
  split at g
  · rename_i ds0 e0
    obtain ⟨F0, T1, T2, s0⟩ := id s
    obtain ⟨a, ws, a1, a2, _, _⟩ := s0.lstAt e0
    refine ⟨.ref a, a1, .inl ⟨rfl, ws, .inl (.inl a2)⟩, h P e σ ρ vs os H _ s ?_⟩
    cases e1 : m ρ with
    | exc x ρ1 => rw [e1] at g; exact g
    | bad => rw [e1] at g; exact g
    | ok xs ρ1 =>
      rw [e1] at g
      intro zs' H1 s1 hl _
      split at g
      · rename_i xs' ρ2 eq
        cases eq
        split at g
        · rename_i ds e3
          by_cases hz : ds.length + xs'.length ≤ sizeLine
          · rw [if_pos hz] at g
            obtain ⟨F, S1, S2, s1⟩ := s1
            obtain ⟨env, tmp, fr, pin⟩ := s1
            obtain ⟨A, B, eS, o1, o2⟩ := Owns.split hl tmp
            subst eS
            cases o1 with
            | cons w rest =>
              cases rest
              cases w with
              | @lst b ws3 _ hb rb =>
                have frb : Fr e F H1 (b :: (S1 ++ B)) := Sbp.fr fr (.of_count fun c => by
                  simp only [List.count_append, List.count_cons, List.count_nil]
                  omega)
                have hb' : H1 b = some (.lst ws3) := by
                  rcases hb with hb | ⟨ob, hb⟩
                  · exact hb
                  · exact (frb.nofz b List.mem_cons_self ob _ hb).elim
                have s2 : StW k P e σ ρ1 vs os F H1 S1 B := ⟨env, o2, Sbp.fr fr (.of_count fun c => by
                  simp only [List.count_append, List.count_cons, List.count_nil]
                  omega), pin⟩
                obtain ⟨a', ws2, b1, b2, b3, b4⟩ := s2.lstAt e3
                rw [a1] at b1
                cases b1
                refine ⟨a, b, ws2, ws3, rfl, rfl, b2, hb', by rw [b3.length, rb.length]; exact hz, ?_⟩
                obtain ⟨U, s5⟩ := b4 (ws2 ++ ws3) (ds ++ xs') (b3.append rb)
                exact g .non _ ⟨F, U, [] ++ B, s5.env, .cons (.fz .non) s5.tmp, s5.fr, s5.pin⟩
          · rw [if_neg hz] at g; exact g.elim
        · exact g.elim
      · exact g.elim
      · rename_i eq; cases eq
      · rename_i eq; cases eq
  · exact g.elim
end
section
variable {i : Nat} {ml : M (List O)} {ρ : List O} {Q : O → List O → Prop}
@[simp] theorem wM_ext : wM (mExt i ml ρ) Q = ((∃ ds, qVar i ρ = some (.lst ds)) ∧ wM (ml ρ) fun xs ρ1 => ∃ zs, xs = [.lst zs] ∧ ∃ ds, qVar i ρ1 = some (.lst ds) ∧ ds.length + zs.length ≤ sizeLine ∧ Q (.fz .none) (ρ1.set i (.lst (ds ++ zs)))) := by
  unfold mExt
  cases e0 : qVar i ρ with
  | none => simp [wM]
  | some o0 =>
    cases o0 with
    | lst ds0 =>
      cases e : ml ρ with
      | ok xs ρ1 =>
        simp only [wM_ok]
        cases xs with
        | nil => simp [wM]
        | cons o1 r =>
          cases r with
          | cons o2 r => simp [wM]
          | nil =>
            cases o1 with
            | lst zs =>
              cases e3 : qVar i ρ1 with
              | none => simp [wM, e3]
              | some o1 =>
                cases o1 with
                | lst ds =>
                  by_cases hz : ds.length + zs.length ≤ sizeLine
                  · simp [wM, e3, hz]
                  · simp [wM, e3, hz]
                | _ => simp [wM, e3]
            | _ => simp [wM]
      | exc x ρ1 => simp [wM]
      | bad => simp [wM]
    | _ => simp [wM]
end
end FM
namespace FM
open PySem PySem.Spec L2 PyProof.Rows
def topS (i : Nat) : Stmt := PySem.Challenge.pw_frameshare_k29_which_are_least.main.body.getD i (.Pass ⟨0, 0, 0, 0⟩)
def clsS (i j : Nat) : Stmt := match topS i with
  | .ClassDef _ _ _ b _ _ _ _ _ _ _ => b.getD j (.Pass ⟨0, 0, 0, 0⟩)
  | _ => .Pass ⟨0, 0, 0, 0⟩
structure Fct (K : Frag) (cl : Nat → Addr) (mg : Str → Option Value) : Prop where
  c_Search : Cls K (cl 0)
  n_Search_things : NoAttr K (cl 0) "things"
  n_Search_mates : NoAttr K (cl 0) "mates"
  n_Search_best : NoAttr K (cl 0) "best"
  n_Search_best_places : NoAttr K (cl 0) "best_places"
  n_Search_floor : NoAttr K (cl 0) "floor"
  f_abs : mg "abs" = none
  f_all : mg "all" = none
  f_any : mg "any" = none
  f_bool : mg "bool" = none
  f_dict : mg "dict" = none
  f_enumerate : mg "enumerate" = none
  f_int : mg "int" = none
  f_isinstance : mg "isinstance" = none
  f_len : mg "len" = none
  f_list : mg "list" = none
  f_max : mg "max" = none
  f_min : mg "min" = none
  f_range : mg "range" = none
  f_sorted : mg "sorted" = none
  f_str : mg "str" = none
  f_sum : mg "sum" = none
  f_tuple : mg "tuple" = none
  f_zip : mg "zip" = none
  g_MOST : ∃ t, mg "MOST" = some (.int 8 t)
section
variable {P : Program} {w : World} {K : Frag} {mg : Str → Option Value} {base : Heap} {cl : Nat → Addr}
abbrev s__law_tape : Stmt := topS 21
theorem sc__law_tape : FnScope ["_law_script", "_law_k", "_law_cell"] ["_law_script", "_law_k"] (defScope s__law_tape) := ⟨rfl, rfl, rfl, by decide +kernel, rfl, by decide +kernel, by decide +kernel⟩
noncomputable def m__law_tape : MS := (sSeq (sSet 2 (mLift (qIf (qB (qOp oLt (qVar 1) (qCb oLen (qCons (qVar 0) qNil)))) (qOp oIx (qVar 0) (qVar 1)) (qC (.int 0))))) (sRet (mNew (qLst (qCons (qOp oMul (qCb oAbs (qCons (qVar 2) qNil)) (qCb oInt (qCons (qOp oGe (qCb oAbs (qCons (qVar 2) qNil)) (qOp oPow (qC (.int 10)) (qC (.int 18)))) qNil))) (qCons (qOp oAdd (qOp oAdd (qOp oMod (qVar 2) (qC (.int 2305843009213693951))) (qOp oMul (qC (.int 39373)) (qVar 1))) (qC (.int 17))) (qCons (qC (.int 0)) qNil)))))))
noncomputable def f__law_tape : List O → FR := defN 1 [false, false] m__law_tape
theorem ok__law_tape {f : Addr} {fd : FuncData} (Fc : Fct K cl mg) (F : FunD K "_law_tape" "_law_tape" (defArgs s__law_tape) (defBody s__law_tape) (defScope s__law_tape) [] [] f fd) (g : mg "_law_tape" = some (.ref f)) : CalG P w K mg base 1 "_law_tape" (spM ⟨K, cl⟩ 2 f__law_tape) := by
  refine ⟨f, fd, ["_law_script", "_law_k"], ?_, g, F.kp, F.bindsN fun _ _ _ _ _ _ us hl => match us, hl with | [_, _], _ => rfl⟩
  refine def_okN (io := [false, false]) (more := 1) (m := m__law_tape) F sc__law_tape rfl rfl ?_
  intro cdv A outer s H E hr
  exact ⟨_, _, (pss_cons (ps_set (i := 2) sc__law_tape.nd rfl (.inl rfl) (pe_ifExp (pt_cmpR op_lt (pv 1) (pe_callB call_lenU rfl Fc.f_len (by rfl) (pa_cons (pv 0) pa_nil)) (nomark _)) (pe_ix (ix_U hr.u1) (pv 0) (pv 1) (fun _ _ => rfl)) pe_int)) (pss_one (ps_ret (pe_lst (pa_cons (pe_op op_mulU (pe_callB call_abs rfl Fc.f_abs (by rfl) (pa_cons (pv 2) pa_nil)) (pe_callTy call_intU rfl Fc.f_int (by rfl) (pa_cons (pe_cmpR op_ge (pe_callB call_abs rfl Fc.f_abs (by rfl) (pa_cons (pv 2) pa_nil)) (pe_op op_pow pe_int pe_int) (nomark _)) pa_nil))) (pa_cons (pe_op op_addU (pe_op op_addU (pe_op op_mod (pv 2) pe_int) (pe_op op_mulU pe_int (pv 1))) pe_int) (pa_cons pe_int pa_nil))))))), (tsm_seq (tsm_set (tem_lift (tev_if (ttv_test (tev_op (tev_var (i := 1)) (tev_cb (tav_cons (tev_var (i := 0)) tav_nil) cb_len) ov_lt)) (tev_op (tev_var (i := 0)) (tev_var (i := 1)) ov_ix) (tev_c fun _ => .int _)))) (tsm_ret (tem_new (ten_lst (tav_cons (tev_op (tev_cb (tav_cons (tev_var (i := 2)) tav_nil) cb_abs) (tev_cb (tav_cons (tev_op (tev_cb (tav_cons (tev_var (i := 2)) tav_nil) cb_abs) (tev_op (tev_c fun _ => .int _) (tev_c fun _ => .int _) ov_pow) ov_ge) tav_nil) cb_int) ov_mul) (tav_cons (tev_op (tev_op (tev_op (tev_var (i := 2)) (tev_c fun _ => .int _) ov_mod) (tev_op (tev_c fun _ => .int _) (tev_var (i := 1)) ov_mul) ov_add) (tev_c fun _ => .int _) ov_add) (tav_cons (tev_c fun _ => .int _) tav_nil))))))), by decide⟩
abbrev s__law_orders : Stmt := topS 33
theorem sc__law_orders : FnScope ["_law_some_here", "_law_found", "_law_k", "_law_one", "_law_rest"] ["_law_some_here"] (defScope s__law_orders) := ⟨rfl, rfl, rfl, by decide +kernel, rfl, by decide +kernel, by decide +kernel⟩
noncomputable def m__law_orders (r__law_orders : List O → FR) : MS := (sSeq (sIf (bLift (qB (qOp oEq (qVar 0) (qFz (qLst qNil))))) (sRet (mNew (qLst (qCons (qFz (qLst qNil)) qNil)))) sNext) (sSeq (sSet 1 (mLift (qFz (qLst qNil)))) (sSeq (sFor (iLift (qEnum (qCons (qVar 0) qNil))) (fTup 2 (fCons (fName 2) (fCons (fName 3) fNil))) (sSet 1 (mLift (qOp oAdd (qVar 1) (qFz (qLc (qItA (qCall (qOf r__law_orders) (qCons (qOp oAdd (qSl (qVar 0) qNo (qPart (qVar 2))) (qSl (qVar 0) (qPart (qOp oAdd (qVar 2) (qC (.int 1)))) qNo)) qNil))) (fName 4) qYes (qOp oAdd (qFz (qLst (qCons (qVar 3) qNil))) (qVar 4)) [4])))))) (sRet (mLift (qVar 1))))))
theorem ok__law_orders {j : Nat} (hj : 0 ≤ j) {r__law_orders : List O → FR} {f : Addr} {fd : FuncData} (Fc : Fct K cl mg) (F : FunD K "_law_orders" "_law_orders" (defArgs s__law_orders) (defBody s__law_orders) (defScope s__law_orders) [] [] f fd) (g : mg "_law_orders" = some (.ref f)) (c__law_orders : CalG P w K mg base j "_law_orders" (spM ⟨K, cl⟩ 1 r__law_orders)) : CalG P w K mg base (j + 1) "_law_orders" (spM ⟨K, cl⟩ 1 (defN 4 [false] (m__law_orders r__law_orders))) := by
  refine ⟨f, fd, ["_law_some_here"], ?_, g, F.kp, F.bindsN fun _ _ _ _ _ _ us hl => match us, hl with | [_], _ => rfl⟩
  refine def_okN (io := [false]) (more := 4) (m := (m__law_orders r__law_orders)) F sc__law_orders rfl rfl ?_
  intro cdv A outer s H E hr
  exact ⟨_, _, (pss_cons (ps_if (pt_cmpR (op_eqU hr.u64) (pv 0) (pe_lst pa_nil) (nomark _)) (pss_one (ps_ret (pe_lst (pa_cons (pe_lst pa_nil) pa_nil)))) pss_nil) (pss_cons (ps_set (i := 1) sc__law_orders.nd rfl (.inl rfl) (pe_lst pa_nil)) (pss_cons (ps_for PassesOwn.never rfl (pi_enum rfl Fc.f_enumerate (pa_cons (pv 0) pa_nil)) (pg_tup rfl (pgs_cons (pg_name (i := 2) sc__law_orders.nd rfl (.inl rfl)) (pgs_cons (pg_name (i := 3) sc__law_orders.nd rfl (.inr rfl)) pgs_nil))) (pss_one (ps_set (i := 1) sc__law_orders.nd rfl (.inl rfl) (pe_op op_addU (pv 1) (pe_lc (own := [("_law_rest", 4)]) rfl sc__law_orders.nd (pi_any (pe_g c__law_orders.quiet hr (Nat.le_refl _) passL rfl (pa_cons (pe_op op_addU (pe_slice sl_U (pv 0) po_none (po_some (pv 2))) (pe_slice sl_U (pv 0) (po_some (pe_op op_addU (pv 2) pe_int)) po_none)) pa_nil))) (blkOk_by (N := ["_law_some_here", "_law_found", "_law_k", "_law_one", "_law_rest"]) (sc := defScope s__law_orders) (own := [("_law_rest", 4)]) (by decide +kernel)) (fun _ _ _ _ _ => (pg_name (i := 4) sc__law_orders.nd rfl (.inl rfl))) (fun _ _ _ _ _ => pts_nil) (fun _ _ _ _ _ => (pe_op op_addU (pe_lst (pa_cons (pv 3) pa_nil)) (pv 4)))))))) (pss_one (ps_ret (pv 1)))))), (tsm_seq (tsm_if (ttm_lift (ttv_test (tev_op (tev_var (i := 0)) (tev_n (ten_lst tav_nil)) ov_eq))) (tsm_ret (tem_new (ten_lst (tav_cons (tev_n (ten_lst tav_nil)) tav_nil)))) tsm_next) (tsm_seq (tsm_set (tem_lift (tev_n (ten_lst tav_nil)))) (tsm_seq (tsm_for (tim_lift (tif_enum (tav_cons (tev_var (i := 0)) tav_nil))) (tgq_tup (tgsq_cons tgq_name (tgsq_cons tgq_name tgsq_nil))) (tsm_set (tem_lift (tev_op (tev_var (i := 1)) (tev_n (ten_lc (tiv_any (tev_call (qlen_cons qlen_nil) (tav_cons (tev_op (tev_sl (tev_var (i := 0)) tov_no (tov_part (tev_var (i := 2)))) (tev_sl (tev_var (i := 0)) (tov_part (tev_op (tev_var (i := 2)) (tev_c fun _ => .int _) ov_add)) tov_no) ov_add) tav_nil))) tgq_name (by decide) ttv_yes (tev_op (tev_n (ten_lst (tav_cons (tev_var (i := 3)) tav_nil))) (tev_var (i := 4)) ov_add))) ov_add)))) (tsm_ret (tem_lift (tev_var (i := 1))))))), by decide⟩
theorem bad__law_orders {j : Nat} {g : List O → FR} (hb : g = fun _ => .bad) {f : Addr} {fd : FuncData} (Fc : Fct K cl mg) (F : FunD K "_law_orders" "_law_orders" (defArgs s__law_orders) (defBody s__law_orders) (defScope s__law_orders) [] [] f fd) (hm : mg "_law_orders" = some (.ref f)) : CalG P w K mg base j "_law_orders" (spM ⟨K, cl⟩ 1 g) := CalG.bad (ps := ["_law_some_here"]) hb F hm (F.bindsN fun _ _ _ _ _ _ us hl => match us, hl with | [_], _ => rfl)
noncomputable def grp__law_orders : Nat → Nat → List O → FR
  | 0, _ => fun _ => .bad
  | n + 1, _ => defN 4 [false] (m__law_orders (grp__law_orders n 0))
noncomputable def f__law_orders : List O → FR := grp__law_orders 45 0
theorem all__law_orders (Fc : Fct K cl mg) {a__law_orders : Addr} {fd__law_orders : FuncData} (F__law_orders : FunD K "_law_orders" "_law_orders" (defArgs s__law_orders) (defBody s__law_orders) (defScope s__law_orders) [] [] a__law_orders fd__law_orders) (g__law_orders : mg "_law_orders" = some (.ref a__law_orders)) : ∀ n : Nat, CalG P w K mg base (0 + n) "_law_orders" (spM ⟨K, cl⟩ 1 (grp__law_orders n 0))
  | 0 => bad__law_orders rfl Fc F__law_orders g__law_orders
  | n + 1 => by
    have ih := all__law_orders Fc F__law_orders g__law_orders n
    exact ok__law_orders (Nat.le_add_right _ _) Fc F__law_orders g__law_orders ih
abbrev s__law_height : Stmt := topS 30
theorem sc__law_height : FnScope ["_law_things", "_law_places_here", "_law_place", "_law_part"] ["_law_things", "_law_places_here"] (defScope s__law_height) := ⟨rfl, rfl, rfl, by decide +kernel, rfl, by decide +kernel, by decide +kernel⟩
noncomputable def m__law_height : MS := (sRet (mLift (qCb oMax1 (qCons (qOp oAdd (qFz (qLst (qCons (qC (.int 0)) qNil))) (qFz (qLc (qZipV (qCons (qVar 1) (qCons (qVar 0) qNil))) (fTup 2 (fCons (fName 2) (fCons (fName 3) fNil))) qYes (qOp oAdd (qVar 2) (qOp oIx (qVar 3) (qC (.int 0)))) [2, 3]))) qNil))))
noncomputable def f__law_height : List O → FR := defN 2 [false, false] m__law_height
theorem ok__law_height {f : Addr} {fd : FuncData} (Fc : Fct K cl mg) (F : FunD K "_law_height" "_law_height" (defArgs s__law_height) (defBody s__law_height) (defScope s__law_height) [] [] f fd) (g : mg "_law_height" = some (.ref f)) : CalG P w K mg base 1 "_law_height" (spM ⟨K, cl⟩ 2 f__law_height) := by
  refine ⟨f, fd, ["_law_things", "_law_places_here"], ?_, g, F.kp, F.bindsN fun _ _ _ _ _ _ us hl => match us, hl with | [_, _], _ => rfl⟩
  refine def_okN (io := [false, false]) (more := 2) (m := m__law_height) F sc__law_height rfl rfl ?_
  intro cdv A outer s H E hr
  exact ⟨_, _, (pss_one (ps_ret (pe_callB (cr_max rfl) rfl Fc.f_max (by rfl) (pa_cons (pe_op op_addU (pe_lst (pa_cons pe_int pa_nil)) (pe_lc (own := [("_law_place", 2), ("_law_part", 3)]) rfl sc__law_height.nd (pi_zipM rfl Fc.f_zip (pa_cons (pv 1) (pa_cons (pv 0) pa_nil))) (blkOk_by (N := ["_law_things", "_law_places_here", "_law_place", "_law_part"]) (sc := defScope s__law_height) (own := [("_law_place", 2), ("_law_part", 3)]) (by decide +kernel)) (fun _ _ _ _ _ => (pg_tup rfl (pgs_cons (pg_name (i := 2) sc__law_height.nd rfl (.inl rfl)) (pgs_cons (pg_name (i := 3) sc__law_height.nd rfl (.inl rfl)) pgs_nil)))) (fun _ _ _ _ _ => pts_nil) (fun _ _ _ _ _ => (pe_op op_addU (pv 2) (pe_ix (ix_U hr.u1) (pv 3) pe_int (fun _ _ => rfl)))))) pa_nil)))), (tsm_ret (tem_lift (tev_cb (tav_cons (tev_op (tev_n (ten_lst (tav_cons (tev_c fun _ => .int _) tav_nil))) (tev_n (ten_lc (tiv_zip (tav_cons (tev_var (i := 1)) (tav_cons (tev_var (i := 0)) tav_nil))) (tgq_tup (tgsq_cons tgq_name (tgsq_cons tgq_name tgsq_nil))) (by decide) ttv_yes (tev_op (tev_var (i := 2)) (tev_op (tev_var (i := 3)) (tev_c fun _ => .int _) ov_ix) ov_add))) ov_add) tav_nil) cb_max1))), by decide⟩
abbrev s__law_up : Stmt := topS 25
theorem sc__law_up : FnScope ["_law_number", "_law_border"] ["_law_number", "_law_border"] (defScope s__law_up) := ⟨rfl, rfl, rfl, by decide +kernel, rfl, by decide +kernel, by decide +kernel⟩
noncomputable def m__law_up : MS := (sRet (mLift (qOp oAdd (qVar 0) (qOp oMod (qOp oSub (qC (.int 0)) (qVar 0)) (qVar 1)))))
noncomputable def f__law_up : List O → FR := defN 0 [false, false] m__law_up
theorem ok__law_up {f : Addr} {fd : FuncData} (Fc : Fct K cl mg) (F : FunD K "_law_up" "_law_up" (defArgs s__law_up) (defBody s__law_up) (defScope s__law_up) [] [] f fd) (g : mg "_law_up" = some (.ref f)) : CalG P w K mg base 1 "_law_up" (spM ⟨K, cl⟩ 2 f__law_up) := by
  refine ⟨f, fd, ["_law_number", "_law_border"], ?_, g, F.kp, F.bindsN fun _ _ _ _ _ _ us hl => match us, hl with | [_, _], _ => rfl⟩
  refine def_okN (io := [false, false]) (more := 0) (m := m__law_up) F sc__law_up rfl rfl ?_
  intro cdv A outer s H E hr
  exact ⟨_, _, (pss_one (ps_ret (pe_op op_addU (pv 0) (pe_op op_mod (pe_op op_sub pe_int (pv 0)) (pv 1))))), (tsm_ret (tem_lift (tev_op (tev_var (i := 0)) (tev_op (tev_op (tev_c fun _ => .int _) (tev_var (i := 0)) ov_sub) (tev_var (i := 1)) ov_mod) ov_add))), by decide⟩
abbrev s__law_lowest : Stmt := topS 31
theorem sc__law_lowest : FnScope ["_law_thing", "_law_others", "_law_ends", "_law_one", "_law_there", "_law_place", "_law_end"] ["_law_thing", "_law_others"] (defScope s__law_lowest) := ⟨rfl, rfl, rfl, by decide +kernel, rfl, by decide +kernel, by decide +kernel⟩
noncomputable def m__law_lowest : MS := (sSeq (sSet 2 (mLift (qFz (qLc (qItA (qVar 1)) (fTup 2 (fCons (fName 3) (fCons (fName 4) fNil))) qYes (qOp oAdd (qVar 4) (qOp oIx (qVar 3) (qC (.int 0)))) [3, 4])))) (sSeq (sFor (iLift (qIfA (qFz (qCb oSortV (qCons (qOp oAdd (qFz (qLst (qCons (qC (.int 0)) qNil))) (qFz (qLc (qItA (qVar 2)) (fName 6) qYes (qCall (qOf f__law_up) (qCons (qVar 6) (qCons (qOp oIx (qVar 0) (qC (.int 1))) qNil))) [6]))) qNil))))) (fName 5) (sSeq (sSet 6 (mLift (qOp oAdd (qVar 5) (qOp oIx (qVar 0) (qC (.int 0)))))) (sIf (bLift (qB (qCb oAll (qCons (qFz (qLc (qItA (qVar 1)) (fTup 2 (fCons (fName 3) (fCons (fName 4) fNil))) qYes (qOrV (qOp oGe (qVar 5) (qOp oAdd (qVar 4) (qOp oIx (qVar 3) (qC (.int 0))))) (qOp oLe (qVar 6) (qVar 4))) [3, 4])) qNil)))) (sRet (mLift (qVar 5))) sNext))) (sRet (mLift (qC (.none))))))
noncomputable def f__law_lowest : List O → FR := defN 5 [false, false] m__law_lowest
theorem ok__law_lowest {f : Addr} {fd : FuncData} (Fc : Fct K cl mg) (F : FunD K "_law_lowest" "_law_lowest" (defArgs s__law_lowest) (defBody s__law_lowest) (defScope s__law_lowest) [] [] f fd) (g : mg "_law_lowest" = some (.ref f)) (c__law_up : CalG P w K mg base 1 "_law_up" (spM ⟨K, cl⟩ 2 f__law_up)) : CalG P w K mg base 2 "_law_lowest" (spM ⟨K, cl⟩ 2 f__law_lowest) := by
  refine ⟨f, fd, ["_law_thing", "_law_others"], ?_, g, F.kp, F.bindsN fun _ _ _ _ _ _ us hl => match us, hl with | [_, _], _ => rfl⟩
  refine def_okN (io := [false, false]) (more := 5) (m := m__law_lowest) F sc__law_lowest rfl rfl ?_
  intro cdv A outer s H E hr
  exact ⟨_, _, (pss_cons (ps_setLc (i := 2) (own := [("_law_one", 3), ("_law_there", 4)]) rfl sc__law_lowest.nd rfl rfl (sw_true rfl rfl rfl (by decide +kernel)) (pi_any (pv 1)) (blkOk_by (N := ["_law_thing", "_law_others", "_law_ends", "_law_one", "_law_there", "_law_place", "_law_end"]) (sc := defScope s__law_lowest) (own := [("_law_one", 3), ("_law_there", 4)]) (by decide +kernel)) (fun _ _ _ _ _ => (pg_tup rfl (pgs_cons (pg_name (i := 3) sc__law_lowest.nd rfl (.inl rfl)) (pgs_cons (pg_name (i := 4) sc__law_lowest.nd rfl (.inl rfl)) pgs_nil)))) (fun _ _ _ _ _ => pts_nil) (fun _ _ _ _ _ => (pe_op op_addU (pv 4) (pe_ix (ix_U hr.u1) (pv 3) pe_int (fun _ _ => rfl))))) (pss_cons (ps_for PassesOwn.never rfl (pi_any (pe_callB (cr_sortedV rfl hr.u64) rfl Fc.f_sorted (by rfl) (pa_cons (pe_op op_addU (pe_lst (pa_cons pe_int pa_nil)) (pe_lc (own := [("_law_end", 6)]) rfl sc__law_lowest.nd (pi_any (pv 2)) (blkOk_by (N := ["_law_thing", "_law_others", "_law_ends", "_law_one", "_law_there", "_law_place", "_law_end"]) (sc := defScope s__law_lowest) (own := [("_law_end", 6)]) (by decide +kernel)) (fun _ _ _ _ _ => (pg_name (i := 6) sc__law_lowest.nd rfl (.inl rfl))) (fun _ _ _ _ _ => pts_nil) (fun _ _ _ _ _ => (pe_g c__law_up.quiet hr (by decide) passL rfl (pa_cons (pv 6) (pa_cons (pe_ix (ix_U hr.u1) (pv 0) pe_int (fun _ _ => rfl)) pa_nil)))))) pa_nil))) (pg_name (i := 5) sc__law_lowest.nd rfl (.inr rfl)) (pss_cons (ps_set (i := 6) sc__law_lowest.nd rfl (.inr rfl) (pe_op op_addU (pv 5) (pe_ix (ix_U hr.u1) (pv 0) pe_int (fun _ _ => rfl)))) (pss_one (ps_if (pt_val (pe_callB (cr_all rfl) rfl Fc.f_all (by rfl) (pa_cons (pe_lc (own := [("_law_one", 3), ("_law_there", 4)]) rfl sc__law_lowest.nd (pi_any (pv 1)) (blkOk_by (N := ["_law_thing", "_law_others", "_law_ends", "_law_one", "_law_there", "_law_place", "_law_end"]) (sc := defScope s__law_lowest) (own := [("_law_one", 3), ("_law_there", 4)]) (by decide +kernel)) (fun _ _ _ _ _ => (pg_tup rfl (pgs_cons (pg_name (i := 3) sc__law_lowest.nd rfl (.inl rfl)) (pgs_cons (pg_name (i := 4) sc__law_lowest.nd rfl (.inl rfl)) pgs_nil)))) (fun _ _ _ _ _ => pts_nil) (fun _ _ _ _ _ => (pe_or (pe_cmpR op_ge (pv 5) (pe_op op_addU (pv 4) (pe_ix (ix_U hr.u1) (pv 3) pe_int (fun _ _ => rfl))) (nomark _)) (pe_one (pe_cmpR op_le (pv 6) (pv 4) (nomark _)))))) pa_nil))) (pss_one (ps_ret (pv 5))) pss_nil)))) (pss_one (ps_ret pe_non)))), (tsm_seq (tsm_set (tem_lift (tev_n (ten_lc (tiv_any (tev_var (i := 1))) (tgq_tup (tgsq_cons tgq_name (tgsq_cons tgq_name tgsq_nil))) (by decide) ttv_yes (tev_op (tev_var (i := 4)) (tev_op (tev_var (i := 3)) (tev_c fun _ => .int _) ov_ix) ov_add))))) (tsm_seq (tsm_for (tim_lift (tif_any (tev_n (ten_cb (tav_cons (tev_op (tev_n (ten_lst (tav_cons (tev_c fun _ => .int _) tav_nil))) (tev_n (ten_lc (tiv_any (tev_var (i := 2))) tgq_name (by decide) ttv_yes (tev_call (qlen_cons (qlen_cons qlen_nil)) (tav_cons (tev_var (i := 6)) (tav_cons (tev_op (tev_var (i := 0)) (tev_c fun _ => .int _) ov_ix) tav_nil))))) ov_add) tav_nil) cn_sortV)))) tgq_name (tsm_seq (tsm_set (tem_lift (tev_op (tev_var (i := 5)) (tev_op (tev_var (i := 0)) (tev_c fun _ => .int _) ov_ix) ov_add))) (tsm_if (ttm_lift (ttv_B (tev_cb (tav_cons (tev_n (ten_lc (tiv_any (tev_var (i := 1))) (tgq_tup (tgsq_cons tgq_name (tgsq_cons tgq_name tgsq_nil))) (by decide) ttv_yes (tev_orV (tev_op (tev_var (i := 5)) (tev_op (tev_var (i := 4)) (tev_op (tev_var (i := 3)) (tev_c fun _ => .int _) ov_ix) ov_add) ov_ge) (tev_op (tev_var (i := 6)) (tev_var (i := 4)) ov_le)))) tav_nil) cb_all))) (tsm_ret (tem_lift (tev_var (i := 5)))) tsm_next))) (tsm_ret (tem_lift (tev_c fun _ => .non))))), by decide⟩
abbrev s__law_put : Stmt := topS 32
theorem sc__law_put : FnScope ["_law_things", "_law_pairs_here", "_law_order", "_law_places_here", "_law_t", "_law_mates", "_law_u"] ["_law_things", "_law_pairs_here", "_law_order"] (defScope s__law_put) := ⟨rfl, rfl, rfl, by decide +kernel, rfl, by decide +kernel, by decide +kernel⟩
noncomputable def m__law_put : MS := (sSeq (sSet 3 (mNew qDk0)) (sSeq (sFor (iLift (qIfA (qVar 2))) (fName 4) (sSeq (sSet 5 (frzM (mNew (qLc (qKeysD 3) (fName 6) (qB (qOp oIn (qTup (qCons (qCb oMin2 (qCons (qVar 4) (qCons (qVar 6) qNil))) (qCons (qCb oMax2 (qCons (qVar 4) (qCons (qVar 6) qNil))) qNil))) (qVar 1))) (qVar 6) [6])))) (sSetU 3 (qVar 4) (mLift (qCall (qOf f__law_lowest) (qCons (qOp oIx (qVar 0) (qVar 4)) (qCons (qFz (qLc (qItA (qVar 5)) (fName 6) qYes (qTup (qCons (qOp oIx (qVar 0) (qVar 6)) (qCons (qOp oIx (qVar 3) (qVar 6)) qNil))) [6])) qNil))))))) (sRet (mNew (qLc (qRng1 (qCons (qCb oLen (qCons (qVar 0) qNil)) qNil)) (fName 4) qYes (qOp oIx (qVar 3) (qVar 4)) [4])))))
noncomputable def f__law_put : List O → FR := defN 4 [false, false, false] m__law_put
theorem ok__law_put {f : Addr} {fd : FuncData} (Fc : Fct K cl mg) (F : FunD K "_law_put" "_law_put" (defArgs s__law_put) (defBody s__law_put) (defScope s__law_put) [] [] f fd) (g : mg "_law_put" = some (.ref f)) (c__law_lowest : CalG P w K mg base 2 "_law_lowest" (spM ⟨K, cl⟩ 2 f__law_lowest)) : CalG P w K mg base 3 "_law_put" (spM ⟨K, cl⟩ 3 f__law_put) := by
  refine ⟨f, fd, ["_law_things", "_law_pairs_here", "_law_order"], ?_, g, F.kp, F.bindsN fun _ _ _ _ _ _ us hl => match us, hl with | [_, _, _], _ => rfl⟩
  refine def_okN (io := [false, false, false]) (more := 4) (m := m__law_put) F sc__law_put rfl rfl ?_
  intro cdv A outer s H E hr
  exact ⟨_, _, (pss_cons (ps_set (i := 3) sc__law_put.nd rfl (.inr rfl) pe_dnewK) (pss_cons (ps_for PassesOwn.never rfl (pi_any (pv 2)) (pg_name (i := 4) sc__law_put.nd rfl (.inr rfl)) (pss_cons (ps_setLcK (i := 5) (own := [("_law_u", 6)]) rfl sc__law_put.nd rfl rfl (sw_true rfl rfl rfl (by decide +kernel)) (pi_keys (pv 3)) (blkOk_by (N := ["_law_things", "_law_pairs_here", "_law_order", "_law_places_here", "_law_t", "_law_mates", "_law_u"]) (sc := defScope s__law_put) (own := [("_law_u", 6)]) (by decide +kernel)) (fun _ _ _ _ _ => (pg_name (i := 6) sc__law_put.nd rfl (.inl rfl))) (fun _ _ _ _ _ => pts_one (pt_cmpR (op_inU hr.u65) (pe_tup (pa_cons (pe_callB (call_min2 rfl) rfl Fc.f_min (by rfl) (pa_cons (pv 4) (pa_cons (pv 6) pa_nil))) (pa_cons (pe_callB (call_max2 rfl) rfl Fc.f_max (by rfl) (pa_cons (pv 4) (pa_cons (pv 6) pa_nil))) pa_nil))) (pv 1) (by with_unfolding_all rfl))) (fun _ _ _ _ _ => (pv 6))) (pss_one (ps_asg (pe_g c__law_lowest.quiet hr (by decide) passL rfl (pa_cons (pe_ix (ix_U hr.u1) (pv 0) (pv 4) (fun _ _ => rfl)) (pa_cons (pe_lc (own := [("_law_u", 6)]) rfl sc__law_put.nd (pi_any (pv 5)) (blkOk_by (N := ["_law_things", "_law_pairs_here", "_law_order", "_law_places_here", "_law_t", "_law_mates", "_law_u"]) (sc := defScope s__law_put) (own := [("_law_u", 6)]) (by decide +kernel)) (fun _ _ _ _ _ => (pg_name (i := 6) sc__law_put.nd rfl (.inl rfl))) (fun _ _ _ _ _ => pts_nil) (fun _ _ _ _ _ => (pe_tup (pa_cons (pe_ix (ix_U hr.u1) (pv 0) (pv 6) (fun _ _ => rfl)) (pa_cons (pe_ix (ix_U hr.u1) (pv 3) (pv 6) (fun _ _ => rfl)) pa_nil))))) pa_nil))) (pg_sub (pv 3) (pv 4) (set_U hr.u1)))))) (pss_one (ps_ret (pe_lc (own := [("_law_t", 4)]) rfl sc__law_put.nd (pi_range1 rfl Fc.f_range (pa_cons (pe_callB call_lenU rfl Fc.f_len (by rfl) (pa_cons (pv 0) pa_nil)) pa_nil)) (blkOk_by (N := ["_law_things", "_law_pairs_here", "_law_order", "_law_places_here", "_law_t", "_law_mates", "_law_u"]) (sc := defScope s__law_put) (own := [("_law_t", 4)]) (by decide +kernel)) (fun _ _ _ _ _ => (pg_name (i := 4) sc__law_put.nd rfl (.inl rfl))) (fun _ _ _ _ _ => pts_nil) (fun _ _ _ _ _ => (pe_ix (ix_U hr.u1) (pv 3) (pv 4) (fun _ _ => rfl)))))))), (tsm_seq (tsm_set (tem_new ten_dk0)) (tsm_seq (tsm_for (tim_lift (tif_any (tev_var (i := 2)))) tgq_name (tsm_seq (tsm_set (tem_frz (tem_lck tgq_name (by decide) (ttv_test (tev_op (tev_tup (tav_cons (tev_cb (tav_cons (tev_var (i := 4)) (tav_cons (tev_var (i := 6)) tav_nil)) cb_min2) (tav_cons (tev_cb (tav_cons (tev_var (i := 4)) (tav_cons (tev_var (i := 6)) tav_nil)) cb_max2) tav_nil))) (tev_var (i := 1)) ov_in)) (tev_var (i := 6))))) (tsm_setU (tem_lift (tev_call (qlen_cons (qlen_cons qlen_nil)) (tav_cons (tev_op (tev_var (i := 0)) (tev_var (i := 4)) ov_ix) (tav_cons (tev_n (ten_lc (tiv_any (tev_var (i := 5))) tgq_name (by decide) ttv_yes (tev_tup (tav_cons (tev_op (tev_var (i := 0)) (tev_var (i := 6)) ov_ix) (tav_cons (tev_op (tev_var (i := 3)) (tev_var (i := 6)) ov_ix) tav_nil))))) tav_nil)))) (tev_var (i := 4))))) (tsm_ret (tem_new (ten_lc (TIf.v (tif_rng1 (tav_cons (tev_cb (tav_cons (tev_var (i := 0)) tav_nil) cb_len) tav_nil))) tgq_name (by decide) ttv_yes (tev_op (tev_var (i := 3)) (tev_var (i := 4)) ov_ix)))))), by decide⟩
abbrev s__law_least : Stmt := topS 34
theorem sc__law_least : FnScope ["_law_things", "_law_pairs_here", "_law_orders_here", "_law_order"] ["_law_things", "_law_pairs_here"] (defScope s__law_least) := ⟨rfl, rfl, rfl, by decide +kernel, rfl, by decide +kernel, by decide +kernel⟩
noncomputable def m__law_least : MS := (sSeq (sSet 2 (mLift (qCall (qOf f__law_orders) (qCons (qFz (qLrg1 (qCb oLen (qCons (qVar 0) qNil)))) qNil)))) (sRet (mLift (qCb oMin1 (qCons (qFz (qLc (qItA (qVar 2)) (fName 3) qYes (qCall (qOf f__law_height) (qCons (qVar 0) (qCons (qCall (qOf f__law_put) (qCons (qVar 0) (qCons (qVar 1) (qCons (qVar 3) qNil)))) qNil))) [3])) qNil)))))
noncomputable def f__law_least : List O → FR := defN 2 [false, false] m__law_least
theorem ok__law_least {f : Addr} {fd : FuncData} (Fc : Fct K cl mg) (F : FunD K "_law_least" "_law_least" (defArgs s__law_least) (defBody s__law_least) (defScope s__law_least) [] [] f fd) (g : mg "_law_least" = some (.ref f)) (c__law_orders : CalG P w K mg base 45 "_law_orders" (spM ⟨K, cl⟩ 1 f__law_orders)) (c__law_height : CalG P w K mg base 1 "_law_height" (spM ⟨K, cl⟩ 2 f__law_height)) (c__law_put : CalG P w K mg base 3 "_law_put" (spM ⟨K, cl⟩ 3 f__law_put)) : CalG P w K mg base 46 "_law_least" (spM ⟨K, cl⟩ 2 f__law_least) := by
  refine ⟨f, fd, ["_law_things", "_law_pairs_here"], ?_, g, F.kp, F.bindsN fun _ _ _ _ _ _ us hl => match us, hl with | [_, _], _ => rfl⟩
  refine def_okN (io := [false, false]) (more := 2) (m := m__law_least) F sc__law_least rfl rfl ?_
  intro cdv A outer s H E hr
  exact ⟨_, _, (pss_cons (ps_set (i := 2) sc__law_least.nd rfl (.inl rfl) (pe_g c__law_orders.quiet hr (by decide) passL rfl (pa_cons (pe_listRg rfl rfl Fc.f_list (prg_1 rfl Fc.f_range (pe_callB call_lenU rfl Fc.f_len (by rfl) (pa_cons (pv 0) pa_nil)))) pa_nil))) (pss_one (ps_ret (pe_callB (cr_min rfl) rfl Fc.f_min (by rfl) (pa_cons (pe_lc (own := [("_law_order", 3)]) rfl sc__law_least.nd (pi_any (pv 2)) (blkOk_by (N := ["_law_things", "_law_pairs_here", "_law_orders_here", "_law_order"]) (sc := defScope s__law_least) (own := [("_law_order", 3)]) (by decide +kernel)) (fun _ _ _ _ _ => (pg_name (i := 3) sc__law_least.nd rfl (.inl rfl))) (fun _ _ _ _ _ => pts_nil) (fun _ _ _ _ _ => (pe_g c__law_height.quiet hr (by decide) passL rfl (pa_cons (pv 0) (pa_cons (pe_g c__law_put.quiet hr (by decide) passL rfl (pa_cons (pv 0) (pa_cons (pv 1) (pa_cons (pv 3) pa_nil)))) pa_nil))))) pa_nil))))), (tsm_seq (tsm_set (tem_lift (tev_call (qlen_cons qlen_nil) (tav_cons (tev_n (ten_lrg1 (tev_cb (tav_cons (tev_var (i := 0)) tav_nil) cb_len))) tav_nil)))) (tsm_ret (tem_lift (tev_cb (tav_cons (tev_n (ten_lc (tiv_any (tev_var (i := 2))) tgq_name (by decide) ttv_yes (tev_call (qlen_cons (qlen_cons qlen_nil)) (tav_cons (tev_var (i := 0)) (tav_cons (tev_call (qlen_cons (qlen_cons (qlen_cons qlen_nil))) (tav_cons (tev_var (i := 0)) (tav_cons (tev_var (i := 1)) (tav_cons (tev_var (i := 3)) tav_nil)))) tav_nil))))) tav_nil) cb_min1)))), by decide⟩
abbrev s_Search_crowd : Stmt := clsS 17 1
theorem sc_Search_crowd : FnScope ["self", "some", "t", "own", "found", "one", "u"] ["self", "some", "t"] (defScope s_Search_crowd) := ⟨rfl, rfl, rfl, by decide +kernel, rfl, by decide +kernel, by decide +kernel⟩
noncomputable def m_Search_crowd (r_Search_crowd : List O → FR) : MS := (sSeq (sSet 3 (mLift (qOp oAdd (qVar 1) (qFz (qLst (qCons (qVar 2) qNil)))))) (sSeq (sSet 4 (mLift (qCb oSum (qCons (qFz (qLc (qItA (qVar 3)) (fName 5) qYes (qOp oIx (qOp oIx (qFld 0 0 "things") (qVar 5)) (qC (.int 0))) [5])) qNil)))) (sSeq (sFor (iLift (qRng2 (qCons (qOp oAdd (qVar 2) (qC (.int 1))) (qCons (qCb oLen (qCons (qFld 0 0 "things") qNil)) qNil)))) (fName 6) (sIf (bLift (qB (qCb oAll (qCons (qFz (qLc (qItA (qVar 3)) (fName 5) qYes (qOp oIn (qVar 5) (qOp oIx (qFld 0 0 "mates") (qVar 6))) [5])) qNil)))) (sSet 4 (mCb oMax2 (mCons (mLift (qVar 4)) (mCons (frzM (mMeth 0 0 "crowd" r_Search_crowd [none, none] (mCons (mLift (qVar 3)) (mCons (mLift (qVar 6)) mNil)))) mNil)))) sNext)) (sRet (mLift (qVar 4))))))
theorem ok_Search_crowd {j : Nat} (hj : 0 ≤ j) {r_Search_crowd : List O → FR} {f : Addr} {fd : FuncData} (Fc : Fct K cl mg) (F : FunD K "crowd" "Search.crowd" (defArgs s_Search_crowd) (defBody s_Search_crowd) (defScope s_Search_crowd) [] [] f fd) (g : Meth K (cl 0) "crowd" f) (c_Search_crowd : MethG P w K mg base j (cl 0) "crowd" (spM ⟨K, cl⟩ 3 r_Search_crowd)) : MethG P w K mg base (j + 1) (cl 0) "crowd" (spM ⟨K, cl⟩ 3 (defN 4 [true, false, false] (m_Search_crowd r_Search_crowd))) := by
  refine ⟨f, fd, ["self", "some", "t"], ?_, Fc.c_Search, g, F.bindsN fun _ _ _ _ _ _ us hl => match us, hl with | [_, _, _], _ => rfl⟩
  refine def_okN (io := [true, false, false]) (more := 4) (m := (m_Search_crowd r_Search_crowd)) F sc_Search_crowd rfl rfl ?_
  intro cdv A outer s H E hr
  exact ⟨_, _, (pss_cons (ps_set (i := 3) sc_Search_crowd.nd rfl (.inl rfl) (pe_op op_addU (pv 1) (pe_lst (pa_cons (pv 2) pa_nil)))) (pss_cons (ps_set (i := 4) sc_Search_crowd.nd rfl (.inl rfl) (pe_callB (cr_sum rfl) rfl Fc.f_sum (by rfl) (pa_cons (pe_lc (own := [("one", 5)]) rfl sc_Search_crowd.nd (pi_any (pv 3)) (blkOk_by (N := ["self", "some", "t", "own", "found", "one", "u"]) (sc := defScope s_Search_crowd) (own := [("one", 5)]) (by decide +kernel)) (fun _ _ _ _ _ => (pg_name (i := 5) sc_Search_crowd.nd rfl (.inl rfl))) (fun _ _ _ _ _ => pts_nil) (fun _ _ _ _ _ => (pe_ix (ix_U hr.u1) (pe_ix (ix_U hr.u1) (pe_fld (pv 0) rfl) (pv 5) (fun _ _ => rfl)) pe_int (fun _ _ => rfl)))) pa_nil))) (pss_cons (ps_for PassesOwn.never rfl (pi_range2 rfl Fc.f_range (pa_cons (pe_op op_addU (pv 2) pe_int) (pa_cons (pe_callB call_lenU rfl Fc.f_len (by rfl) (pa_cons (pe_fld (pv 0) rfl) pa_nil)) pa_nil))) (pg_name (i := 6) sc_Search_crowd.nd rfl (.inr rfl)) (pss_one (ps_if (pt_val (pe_callB (cr_all rfl) rfl Fc.f_all (by rfl) (pa_cons (pe_lc (own := [("one", 5)]) rfl sc_Search_crowd.nd (pi_any (pv 3)) (blkOk_by (N := ["self", "some", "t", "own", "found", "one", "u"]) (sc := defScope s_Search_crowd) (own := [("one", 5)]) (by decide +kernel)) (fun _ _ _ _ _ => (pg_name (i := 5) sc_Search_crowd.nd rfl (.inl rfl))) (fun _ _ _ _ _ => pts_nil) (fun _ _ _ _ _ => (pe_cmpR (op_inU hr.u65) (pv 5) (pe_ix (ix_U hr.u1) (pe_fld (pv 0) rfl) (pv 6) (fun _ _ => rfl)) (by with_unfolding_all rfl)))) pa_nil))) (pss_one (ps_set (i := 4) sc_Search_crowd.nd rfl (.inl rfl) (pe_callB (call_max2 rfl) rfl Fc.f_max (by rfl) (pa_cons (pv 4) (pa_cons (pe_mth c_Search_crowd hr (Nat.le_refl _) passL (pv 0) (pa_cons (pv 3) (pa_cons (pv 6) pa_nil))) pa_nil))))) pss_nil))) (pss_one (ps_ret (pv 4)))))), (tsm_seq (tsm_set (tem_lift (tev_op (tev_var (i := 1)) (tev_n (ten_lst (tav_cons (tev_var (i := 2)) tav_nil))) ov_add))) (tsm_seq (tsm_set (tem_lift (tev_cb (tav_cons (tev_n (ten_lc (tiv_any (tev_var (i := 3))) tgq_name (by decide) ttv_yes (tev_op (tev_op (tev_fld Fc.c_Search Fc.n_Search_things) (tev_var (i := 5)) ov_ix) (tev_c fun _ => .int _) ov_ix))) tav_nil) cb_sum))) (tsm_seq (tsm_for (tim_lift (tif_rng2 (tav_cons (tev_op (tev_var (i := 2)) (tev_c fun _ => .int _) ov_add) (tav_cons (tev_cb (tav_cons (tev_fld Fc.c_Search Fc.n_Search_things) tav_nil) cb_len) tav_nil)))) tgq_name (tsm_if (ttm_lift (ttv_B (tev_cb (tav_cons (tev_n (ten_lc (tiv_any (tev_var (i := 3))) tgq_name (by decide) ttv_yes (tev_op (tev_var (i := 5)) (tev_op (tev_fld Fc.c_Search Fc.n_Search_mates) (tev_var (i := 6)) ov_ix) ov_in))) tav_nil) cb_all))) (tsm_set (tem_cb (tam_val (tem_lift (tev_var (i := 4))) (tam_val (tem_frz (tem_meth rfl (tam_val (tem_lift (tev_var (i := 3))) (tam_val (tem_lift (tev_var (i := 6))) tam_nil)))) tam_nil)) cb_max2)) tsm_next)) (tsm_ret (tem_lift (tev_var (i := 4))))))), by decide⟩
theorem bad_Search_crowd {j : Nat} {g : List O → FR} (hb : g = fun _ => .bad) {f : Addr} {fd : FuncData} (Fc : Fct K cl mg) (F : FunD K "crowd" "Search.crowd" (defArgs s_Search_crowd) (defBody s_Search_crowd) (defScope s_Search_crowd) [] [] f fd) (hm : Meth K (cl 0) "crowd" f) : MethG P w K mg base j (cl 0) "crowd" (spM ⟨K, cl⟩ 3 g) := MethG.bad (ps := ["self", "some", "t"]) hb Fc.c_Search hm (F.bindsN fun _ _ _ _ _ _ us hl => match us, hl with | [_, _, _], _ => rfl)
noncomputable def grp_Search_crowd : Nat → Nat → List O → FR
  | 0, _ => fun _ => .bad
  | n + 1, _ => defN 4 [true, false, false] (m_Search_crowd (grp_Search_crowd n 0))
noncomputable def f_Search_crowd : List O → FR := grp_Search_crowd 45 0
theorem all_Search_crowd (Fc : Fct K cl mg) {a_Search_crowd : Addr} {fd_Search_crowd : FuncData} (F_Search_crowd : FunD K "crowd" "Search.crowd" (defArgs s_Search_crowd) (defBody s_Search_crowd) (defScope s_Search_crowd) [] [] a_Search_crowd fd_Search_crowd) (g_Search_crowd : Meth K (cl 0) "crowd" a_Search_crowd) : ∀ n : Nat, MethG P w K mg base (0 + n) (cl 0) "crowd" (spM ⟨K, cl⟩ 3 (grp_Search_crowd n 0))
  | 0 => bad_Search_crowd rfl Fc F_Search_crowd g_Search_crowd
  | n + 1 => by
    have ih := all_Search_crowd Fc F_Search_crowd g_Search_crowd n
    exact ok_Search_crowd (Nat.le_add_right _ _) Fc F_Search_crowd g_Search_crowd ih
abbrev s_Search___init__ : Stmt := clsS 17 0
theorem sc_Search___init__ : FnScope ["self", "things", "pairs", "thing", "t", "u"] ["self", "things", "pairs"] (defScope s_Search___init__) := ⟨rfl, rfl, rfl, by decide +kernel, rfl, by decide +kernel, by decide +kernel⟩
noncomputable def m_Search___init__ : MS := (sSeq (sSetF 0 0 "things" (mLift (qVar 1))) (sSeq (sSetF 0 0 "mates" (mLcN (iLift (qIfA (qVar 1))) (fName 3) bYes (mNew (qLst qNil)) [3])) (sSeq (sFor (iLift (qIfA (qVar 2))) (fTup 2 (fCons (fName 4) (fCons (fName 5) fNil))) (sSeq (sDrop (mMtFI 0 0 "mates" (qVar 4) fAppend (qCons (qVar 5) qNil))) (sDrop (mMtFI 0 0 "mates" (qVar 5) fAppend (qCons (qVar 4) qNil))))) (sSeq (sSetF 0 0 "best" (mLift (qC (.none)))) (sSeq (sSetF 0 0 "best_places" (mLift (qC (.none)))) (sSetF 0 0 "floor" (mMaxD (mCons (frzM (mLc (iLift (qRng1 (qCons (qCb oLen (qCons (qVar 1) qNil)) qNil))) (fName 4) bYes (frzM (mMeth 0 0 "crowd" f_Search_crowd [none, none] (mCons (mLift (qFz (qLst qNil))) (mCons (mLift (qVar 4)) mNil)))) [4])) mNil) (.int 0))))))))
noncomputable def f_Search___init__ : List O → FR := defN 3 [true, false, false] m_Search___init__
theorem ok_Search___init__ {f : Addr} {fd : FuncData} (Fc : Fct K cl mg) (F : FunD K "__init__" "Search.__init__" (defArgs s_Search___init__) (defBody s_Search___init__) (defScope s_Search___init__) [] [] f fd) (g : Mk K (cl 0) f ∧ mg "Search" = some (.ref (cl 0))) (c_Search_crowd : MethG P w K mg base 45 (cl 0) "crowd" (spM ⟨K, cl⟩ 3 f_Search_crowd)) : MakG P w K mg base 46 "Search" (cl 0) (spM ⟨K, cl⟩ 3 f_Search___init__) := by
  refine ⟨f, fd, ["self", "things", "pairs"], ?_, g.1, g.2, F.bindsN fun _ _ _ _ _ _ us hl => match us, hl with | [_, _, _], _ => rfl⟩
  refine def_okN (io := [true, false, false]) (more := 3) (m := m_Search___init__) F sc_Search___init__ rfl rfl ?_
  intro cdv A outer s H E hr
  exact ⟨_, _, (pss_cons (ps_fld (pv 0) (pv 1) rfl) (pss_cons (ps_fld (pv 0) (pe_lc (own := [("thing", 3)]) rfl sc_Search___init__.nd (pi_any (pv 1)) (blkOk_by (N := ["self", "things", "pairs", "thing", "t", "u"]) (sc := defScope s_Search___init__) (own := [("thing", 3)]) (by decide +kernel)) (fun _ _ _ _ _ => (pg_name (i := 3) sc_Search___init__.nd rfl (.inl rfl))) (fun _ _ _ _ _ => pts_nil) (fun _ _ _ _ _ => (pe_lst pa_nil))) rfl) (pss_cons (ps_for PassesOwn.never rfl (pi_any (pv 2)) (pg_tup rfl (pgs_cons (pg_name (i := 4) sc_Search___init__.nd rfl (.inl rfl)) (pgs_cons (pg_name (i := 5) sc_Search___init__.nd rfl (.inl rfl)) pgs_nil))) (pss_cons (ps_expr (pe_bm PySem.F.plainAttrs_list PySem.F.slot_list_append PySem.F.type_list_append mt_append (pe_ix (ix_U hr.u1) (pe_fld (pv 0) rfl) (pv 4) (fun _ _ => rfl)) (pa_cons (pv 5) pa_nil))) (pss_one (ps_expr (pe_bm PySem.F.plainAttrs_list PySem.F.slot_list_append PySem.F.type_list_append mt_append (pe_ix (ix_U hr.u1) (pe_fld (pv 0) rfl) (pv 5) (fun _ _ => rfl)) (pa_cons (pv 4) pa_nil)))))) (pss_cons (ps_fld (pv 0) pe_non rfl) (pss_cons (ps_fld (pv 0) pe_non rfl) (pss_one (ps_fld (pv 0) (pe_callBK (cr_maxD rfl hr.u1) rfl Fc.f_max (by rfl) (pa_cons (pe_lc (own := [("t", 4)]) rfl sc_Search___init__.nd (pi_range1 rfl Fc.f_range (pa_cons (pe_callB call_lenU rfl Fc.f_len (by rfl) (pa_cons (pv 1) pa_nil)) pa_nil)) (blkOk_by (N := ["self", "things", "pairs", "thing", "t", "u"]) (sc := defScope s_Search___init__) (own := [("t", 4)]) (by decide +kernel)) (fun _ _ _ _ _ => (pg_name (i := 4) sc_Search___init__.nd rfl (.inl rfl))) (fun _ _ _ _ _ => pts_nil) (fun _ _ _ _ _ => (pe_mth c_Search_crowd hr (by decide) passL (pv 0) (pa_cons (pe_lst pa_nil) (pa_cons (pv 4) pa_nil))))) pa_nil) (pk_cons pe_int pk_nil)) rfl))))))), (tsm_seq (tsm_setF Fc.c_Search Fc.n_Search_things (tem_lift (tev_var (i := 1)))) (tsm_seq (tsm_setF Fc.c_Search Fc.n_Search_mates (tem_lcN (tim_lift (tif_any (tev_var (i := 1)))) tgq_name (by decide) ttm_yes (tem_new (ten_lst tav_nil)))) (tsm_seq (tsm_for (tim_lift (tif_any (tev_var (i := 2)))) (tgq_tup (tgsq_cons tgq_name (tgsq_cons tgq_name tgsq_nil))) (tsm_seq (tsm_drop (tem_mtFI Fc.c_Search Fc.n_Search_mates (tev_var (i := 4)) (tav_cons (tev_var (i := 5)) tav_nil) lm_append)) (tsm_drop (tem_mtFI Fc.c_Search Fc.n_Search_mates (tev_var (i := 5)) (tav_cons (tev_var (i := 4)) tav_nil) lm_append)))) (tsm_seq (tsm_setF Fc.c_Search Fc.n_Search_best (tem_lift (tev_c fun _ => .non))) (tsm_seq (tsm_setF Fc.c_Search Fc.n_Search_best_places (tem_lift (tev_c fun _ => .non))) (tsm_setF Fc.c_Search Fc.n_Search_floor (tem_maxD (tam_val (tem_frz (tem_lc (tim_lift (tif_rng1 (tav_cons (tev_cb (tav_cons (tev_var (i := 1)) tav_nil) cb_len) tav_nil))) tgq_name (by decide) ttm_yes (tem_frz (tem_meth rfl (tam_val (tem_lift (tev_n (ten_lst tav_nil))) (tam_val (tem_lift (tev_var (i := 4))) tam_nil)))))) tam_nil)))))))), by decide⟩
abbrev s_end_of : Stmt := topS 6
theorem sc_end_of : FnScope ["thing", "place"] ["thing", "place"] (defScope s_end_of) := ⟨rfl, rfl, rfl, by decide +kernel, rfl, by decide +kernel, by decide +kernel⟩
noncomputable def m_end_of : MS := (sRet (mLift (qOp oAdd (qVar 1) (qOp oIx (qVar 0) (qC (.int 0))))))
noncomputable def f_end_of : List O → FR := defN 0 [false, false] m_end_of
theorem ok_end_of {f : Addr} {fd : FuncData} (Fc : Fct K cl mg) (F : FunD K "end_of" "end_of" (defArgs s_end_of) (defBody s_end_of) (defScope s_end_of) [] [] f fd) (g : mg "end_of" = some (.ref f)) : CalG P w K mg base 1 "end_of" (spM ⟨K, cl⟩ 2 f_end_of) := by
  refine ⟨f, fd, ["thing", "place"], ?_, g, F.kp, F.bindsN fun _ _ _ _ _ _ us hl => match us, hl with | [_, _], _ => rfl⟩
  refine def_okN (io := [false, false]) (more := 0) (m := m_end_of) F sc_end_of rfl rfl ?_
  intro cdv A outer s H E hr
  exact ⟨_, _, (pss_one (ps_ret (pe_op op_addU (pv 1) (pe_ix (ix_U hr.u1) (pv 0) pe_int (fun _ _ => rfl))))), (tsm_ret (tem_lift (tev_op (tev_var (i := 1)) (tev_op (tev_var (i := 0)) (tev_c fun _ => .int _) ov_ix) ov_add))), by decide⟩
abbrev s_lie_over : Stmt := topS 7
theorem sc_lie_over : FnScope ["thing", "place", "other", "there"] ["thing", "place", "other", "there"] (defScope s_lie_over) := ⟨rfl, rfl, rfl, by decide +kernel, rfl, by decide +kernel, by decide +kernel⟩
noncomputable def m_lie_over : MS := (sRet (mLift (qAndV (qOp oLt (qVar 1) (qCall (qOf f_end_of) (qCons (qVar 2) (qCons (qVar 3) qNil)))) (qOp oLt (qVar 3) (qCall (qOf f_end_of) (qCons (qVar 0) (qCons (qVar 1) qNil)))))))
noncomputable def f_lie_over : List O → FR := defN 0 [false, false, false, false] m_lie_over
theorem ok_lie_over {f : Addr} {fd : FuncData} (Fc : Fct K cl mg) (F : FunD K "lie_over" "lie_over" (defArgs s_lie_over) (defBody s_lie_over) (defScope s_lie_over) [] [] f fd) (g : mg "lie_over" = some (.ref f)) (c_end_of : CalG P w K mg base 1 "end_of" (spM ⟨K, cl⟩ 2 f_end_of)) : CalG P w K mg base 2 "lie_over" (spM ⟨K, cl⟩ 4 f_lie_over) := by
  refine ⟨f, fd, ["thing", "place", "other", "there"], ?_, g, F.kp, F.bindsN fun _ _ _ _ _ _ us hl => match us, hl with | [_, _, _, _], _ => rfl⟩
  refine def_okN (io := [false, false, false, false]) (more := 0) (m := m_lie_over) F sc_lie_over rfl rfl ?_
  intro cdv A outer s H E hr
  exact ⟨_, _, (pss_one (ps_ret (pe_and (pe_cmpR op_lt (pv 1) (pe_g c_end_of.quiet hr (by decide) passL rfl (pa_cons (pv 2) (pa_cons (pv 3) pa_nil))) (nomark _)) (pe_one (pe_cmpR op_lt (pv 3) (pe_g c_end_of.quiet hr (by decide) passL rfl (pa_cons (pv 0) (pa_cons (pv 1) pa_nil))) (nomark _)))))), (tsm_ret (tem_lift (tev_andV (tev_op (tev_var (i := 1)) (tev_call (qlen_cons (qlen_cons qlen_nil)) (tav_cons (tev_var (i := 2)) (tav_cons (tev_var (i := 3)) tav_nil))) ov_lt) (tev_op (tev_var (i := 3)) (tev_call (qlen_cons (qlen_cons qlen_nil)) (tav_cons (tev_var (i := 0)) (tav_cons (tev_var (i := 1)) tav_nil))) ov_lt)))), by decide⟩
abbrev s_rounded : Stmt := topS 5
theorem sc_rounded : FnScope ["number", "border"] ["number", "border"] (defScope s_rounded) := ⟨rfl, rfl, rfl, by decide +kernel, rfl, by decide +kernel, by decide +kernel⟩
noncomputable def m_rounded : MS := (sRet (mLift (qOp oMul (qOp oDiv (qOp oSub (qOp oAdd (qVar 0) (qVar 1)) (qC (.int 1))) (qVar 1)) (qVar 1))))
noncomputable def f_rounded : List O → FR := defN 0 [false, false] m_rounded
theorem ok_rounded {f : Addr} {fd : FuncData} (Fc : Fct K cl mg) (F : FunD K "rounded" "rounded" (defArgs s_rounded) (defBody s_rounded) (defScope s_rounded) [] [] f fd) (g : mg "rounded" = some (.ref f)) : CalG P w K mg base 1 "rounded" (spM ⟨K, cl⟩ 2 f_rounded) := by
  refine ⟨f, fd, ["number", "border"], ?_, g, F.kp, F.bindsN fun _ _ _ _ _ _ us hl => match us, hl with | [_, _], _ => rfl⟩
  refine def_okN (io := [false, false]) (more := 0) (m := m_rounded) F sc_rounded rfl rfl ?_
  intro cdv A outer s H E hr
  exact ⟨_, _, (pss_one (ps_ret (pe_op op_mulU (pe_op op_fdivW (pe_op op_sub (pe_op op_addU (pv 0) (pv 1)) pe_int) (pv 1)) (pv 1)))), (tsm_ret (tem_lift (tev_op (tev_op (tev_op (tev_op (tev_var (i := 0)) (tev_var (i := 1)) ov_add) (tev_c fun _ => .int _) ov_sub) (tev_var (i := 1)) ov_div) (tev_var (i := 1)) ov_mul))), by decide⟩
abbrev s_least_place : Stmt := topS 10
theorem sc_least_place : FnScope ["thing", "others", "found", "there", "other", "one", "place"] ["thing", "others"] (defScope s_least_place) := ⟨rfl, rfl, rfl, by decide +kernel, rfl, by decide +kernel, by decide +kernel⟩
noncomputable def m_least_place : MS := (sSeq (sSet 2 (mLift (qC (.int 0)))) (sSeq (sFor (iLift (qIfA (qFz (qCb oSortV (qCons (qFz (qLc (qItA (qVar 1)) (fTup 2 (fCons (fName 5) (fCons (fName 6) fNil))) qYes (qTup (qCons (qVar 6) (qCons (qVar 5) qNil))) [5, 6])) qNil))))) (fTup 2 (fCons (fName 3) (fCons (fName 4) fNil))) (sIf (bLift (qB (qCall (qOf f_lie_over) (qCons (qVar 0) (qCons (qVar 2) (qCons (qVar 4) (qCons (qVar 3) qNil))))))) (sSet 2 (mLift (qCall (qOf f_rounded) (qCons (qCall (qOf f_end_of) (qCons (qVar 4) (qCons (qVar 3) qNil))) (qCons (qOp oIx (qVar 0) (qC (.int 1))) qNil))))) sNext)) (sRet (mLift (qVar 2)))))
noncomputable def f_least_place : List O → FR := defN 5 [false, false] m_least_place
theorem ok_least_place {f : Addr} {fd : FuncData} (Fc : Fct K cl mg) (F : FunD K "least_place" "least_place" (defArgs s_least_place) (defBody s_least_place) (defScope s_least_place) [] [] f fd) (g : mg "least_place" = some (.ref f)) (c_lie_over : CalG P w K mg base 2 "lie_over" (spM ⟨K, cl⟩ 4 f_lie_over)) (c_rounded : CalG P w K mg base 1 "rounded" (spM ⟨K, cl⟩ 2 f_rounded)) (c_end_of : CalG P w K mg base 1 "end_of" (spM ⟨K, cl⟩ 2 f_end_of)) : CalG P w K mg base 3 "least_place" (spM ⟨K, cl⟩ 2 f_least_place) := by
  refine ⟨f, fd, ["thing", "others"], ?_, g, F.kp, F.bindsN fun _ _ _ _ _ _ us hl => match us, hl with | [_, _], _ => rfl⟩
  refine def_okN (io := [false, false]) (more := 5) (m := m_least_place) F sc_least_place rfl rfl ?_
  intro cdv A outer s H E hr
  exact ⟨_, _, (pss_cons (ps_set (i := 2) sc_least_place.nd rfl (.inl rfl) pe_int) (pss_cons (ps_for PassesOwn.never rfl (pi_any (pe_callB (cr_sortedV rfl hr.u64) rfl Fc.f_sorted (by rfl) (pa_cons (pe_lc (own := [("one", 5), ("place", 6)]) rfl sc_least_place.nd (pi_any (pv 1)) (blkOk_by (N := ["thing", "others", "found", "there", "other", "one", "place"]) (sc := defScope s_least_place) (own := [("one", 5), ("place", 6)]) (by decide +kernel)) (fun _ _ _ _ _ => (pg_tup rfl (pgs_cons (pg_name (i := 5) sc_least_place.nd rfl (.inl rfl)) (pgs_cons (pg_name (i := 6) sc_least_place.nd rfl (.inl rfl)) pgs_nil)))) (fun _ _ _ _ _ => pts_nil) (fun _ _ _ _ _ => (pe_tup (pa_cons (pv 6) (pa_cons (pv 5) pa_nil))))) pa_nil))) (pg_tup rfl (pgs_cons (pg_name (i := 3) sc_least_place.nd rfl (.inl rfl)) (pgs_cons (pg_name (i := 4) sc_least_place.nd rfl (.inl rfl)) pgs_nil))) (pss_one (ps_if (pt_val (pe_g c_lie_over.quiet hr (by decide) passL rfl (pa_cons (pv 0) (pa_cons (pv 2) (pa_cons (pv 4) (pa_cons (pv 3) pa_nil)))))) (pss_one (ps_set (i := 2) sc_least_place.nd rfl (.inl rfl) (pe_g c_rounded.quiet hr (by decide) passL rfl (pa_cons (pe_g c_end_of.quiet hr (by decide) passL rfl (pa_cons (pv 4) (pa_cons (pv 3) pa_nil))) (pa_cons (pe_ix (ix_U hr.u1) (pv 0) pe_int (fun _ _ => rfl)) pa_nil))))) pss_nil))) (pss_one (ps_ret (pv 2))))), (tsm_seq (tsm_set (tem_lift (tev_c fun _ => .int _))) (tsm_seq (tsm_for (tim_lift (tif_any (tev_n (ten_cb (tav_cons (tev_n (ten_lc (tiv_any (tev_var (i := 1))) (tgq_tup (tgsq_cons tgq_name (tgsq_cons tgq_name tgsq_nil))) (by decide) ttv_yes (tev_tup (tav_cons (tev_var (i := 6)) (tav_cons (tev_var (i := 5)) tav_nil))))) tav_nil) cn_sortV)))) (tgq_tup (tgsq_cons tgq_name (tgsq_cons tgq_name tgsq_nil))) (tsm_if (ttm_lift (ttv_B (tev_call (qlen_cons (qlen_cons (qlen_cons (qlen_cons qlen_nil)))) (tav_cons (tev_var (i := 0)) (tav_cons (tev_var (i := 2)) (tav_cons (tev_var (i := 4)) (tav_cons (tev_var (i := 3)) tav_nil))))))) (tsm_set (tem_lift (tev_call (qlen_cons (qlen_cons qlen_nil)) (tav_cons (tev_call (qlen_cons (qlen_cons qlen_nil)) (tav_cons (tev_var (i := 4)) (tav_cons (tev_var (i := 3)) tav_nil))) (tav_cons (tev_op (tev_var (i := 0)) (tev_c fun _ => .int _) ov_ix) tav_nil))))) tsm_next)) (tsm_ret (tem_lift (tev_var (i := 2)))))), by decide⟩
abbrev s_Search_go_on : Stmt := clsS 17 2
theorem sc_Search_go_on : FnScope ["self", "places", "top", "last", "t", "thing", "place", "further", "u"] ["self", "places", "top", "last"] (defScope s_Search_go_on) := ⟨rfl, rfl, rfl, by decide +kernel, rfl, by decide +kernel, by decide +kernel⟩
noncomputable def m_Search_go_on (r_Search_go_on : List O → FR) : MS := (sSeq (sIf (bLift (qAnd (qB (qOp oNotN (qFld 0 0 "best") (qC (.none)))) (qOr (qB (qOp oGe (qVar 2) (qFld 0 0 "best"))) (qB (qOp oEq (qFld 0 0 "best") (qFld 0 0 "floor")))))) sRetN sNext) (sSeq (sIf (bLift (qB (qOp oEq (qCb oLen (qCons (qVar 1) qNil)) (qCb oLen (qCons (qFld 0 0 "things") qNil))))) (sSeq (sSetF 0 0 "best" (mLift (qVar 2))) (sSetF 0 0 "best_places" (mNew (qLc (qRng1 (qCons (qCb oLen (qCons (qFld 0 0 "things") qNil)) qNil)) (fName 4) qYes (qOp oIx (qVar 1) (qVar 4)) [4])))) sNext) (sFor (iLift (qEnumT (qCons (qFld 0 0 "things") qNil))) (fTup 2 (fCons (fName 4) (fCons (fName 5) fNil))) (sIf (bLift (qB (qOp oNin (qVar 4) (qVar 1)))) (sSeq (sSet 6 (mLift (qCall (qOf f_least_place) (qCons (qVar 5) (qCons (qFz (qLc (qItA (qOp oIx (qFld 0 0 "mates") (qVar 4))) (fName 8) (qB (qOp oIn (qVar 8) (qVar 1))) (qTup (qCons (qOp oIx (qFld 0 0 "things") (qVar 8)) (qCons (qOp oIx (qVar 1) (qVar 8)) qNil))) [8])) qNil))))) (sIf (bLift (qB (qOp oGtX (qTup (qCons (qVar 6) (qCons (qVar 4) qNil))) (qVar 3)))) (sSeq (sSet 7 (mNew (qCb oDictC (qCons (qVar 1) qNil)))) (sSeq (sSetU 7 (qVar 4) (mLift (qVar 6))) (sDrop (mMeth 0 0 "go_on" r_Search_go_on [some 7, none, none] (mRef 7 (mCons (mLift (qCb oMax2 (qCons (qVar 2) (qCons (qCall (qOf f_end_of) (qCons (qVar 5) (qCons (qVar 6) qNil))) qNil)))) (mCons (mLift (qTup (qCons (qVar 6) (qCons (qVar 4) qNil)))) mNil))))))) sNext)) sNext))))
theorem ok_Search_go_on {j : Nat} (hj : 3 ≤ j) {r_Search_go_on : List O → FR} {f : Addr} {fd : FuncData} (Fc : Fct K cl mg) (F : FunD K "go_on" "Search.go_on" (defArgs s_Search_go_on) (defBody s_Search_go_on) (defScope s_Search_go_on) [] [] f fd) (g : Meth K (cl 0) "go_on" f) (c_least_place : CalG P w K mg base 3 "least_place" (spM ⟨K, cl⟩ 2 f_least_place)) (c_end_of : CalG P w K mg base 1 "end_of" (spM ⟨K, cl⟩ 2 f_end_of)) (c_Search_go_on : MethG P w K mg base j (cl 0) "go_on" (spM ⟨K, cl⟩ 4 r_Search_go_on)) : MethG P w K mg base (j + 1) (cl 0) "go_on" (spM ⟨K, cl⟩ 4 (defN 5 [true, true, false, false] (m_Search_go_on r_Search_go_on))) := by
  refine ⟨f, fd, ["self", "places", "top", "last"], ?_, Fc.c_Search, g, F.bindsN fun _ _ _ _ _ _ us hl => match us, hl with | [_, _, _, _], _ => rfl⟩
  refine def_okN (io := [true, true, false, false]) (more := 5) (m := (m_Search_go_on r_Search_go_on)) F sc_Search_go_on rfl rfl ?_
  intro cdv A outer s H E hr
  exact ⟨_, _, (pss_cons (ps_if (PW.pt (pw_and (pt_cmpR op_notN (pe_fld (pv 0) rfl) pe_non (nomark _)) (pw_and1 (PW.pt (pw_or (pt_cmpR op_ge (pv 2) (pe_fld (pv 0) rfl) (nomark _)) (pw_or1 (pt_cmpR (op_eqU hr.u64) (pe_fld (pv 0) rfl) (pe_fld (pv 0) rfl) (nomark _)))))))) (pss_one ps_retN) pss_nil) (pss_cons (ps_if (pt_cmpR (op_eqU hr.u64) (pe_callB call_lenU rfl Fc.f_len (by rfl) (pa_cons (pv 1) pa_nil)) (pe_callB call_lenU rfl Fc.f_len (by rfl) (pa_cons (pe_fld (pv 0) rfl) pa_nil)) (nomark _)) (pss_cons (ps_fld (pv 0) (pv 2) rfl) (pss_one (ps_fld (pv 0) (pe_lc (own := [("t", 4)]) rfl sc_Search_go_on.nd (pi_range1 rfl Fc.f_range (pa_cons (pe_callB call_lenU rfl Fc.f_len (by rfl) (pa_cons (pe_fld (pv 0) rfl) pa_nil)) pa_nil)) (blkOk_by (N := ["self", "places", "top", "last", "t", "thing", "place", "further", "u"]) (sc := defScope s_Search_go_on) (own := [("t", 4)]) (by decide +kernel)) (fun _ _ _ _ _ => (pg_name (i := 4) sc_Search_go_on.nd rfl (.inl rfl))) (fun _ _ _ _ _ => pts_nil) (fun _ _ _ _ _ => (pe_ix (ix_U hr.u1) (pv 1) (pv 4) (fun _ _ => rfl)))) rfl))) pss_nil) (pss_one (ps_for PassesOwn.never rfl (pi_enumB rfl Fc.f_enumerate (pa_cons (pe_fld (pv 0) rfl) pa_nil)) (pg_tup rfl (pgs_cons (pg_name (i := 4) sc_Search_go_on.nd rfl (.inl rfl)) (pgs_cons (pg_name (i := 5) sc_Search_go_on.nd rfl (.inl rfl)) pgs_nil))) (pss_one (ps_if (pt_cmpR (op_ninU hr.u65) (pv 4) (pv 1) (by with_unfolding_all rfl)) (pss_cons (ps_set (i := 6) sc_Search_go_on.nd rfl (.inl rfl) (pe_g c_least_place.quiet hr (Nat.le_trans (by decide) hj) passL rfl (pa_cons (pv 5) (pa_cons (pe_lc (own := [("u", 8)]) rfl sc_Search_go_on.nd (pi_any (pe_ix (ix_U hr.u1) (pe_fld (pv 0) rfl) (pv 4) (fun _ _ => rfl))) (blkOk_by (N := ["self", "places", "top", "last", "t", "thing", "place", "further", "u"]) (sc := defScope s_Search_go_on) (own := [("u", 8)]) (by decide +kernel)) (fun _ _ _ _ _ => (pg_name (i := 8) sc_Search_go_on.nd rfl (.inl rfl))) (fun _ _ _ _ _ => pts_one (pt_cmpR (op_inU hr.u65) (pv 8) (pv 1) (by with_unfolding_all rfl))) (fun _ _ _ _ _ => (pe_tup (pa_cons (pe_ix (ix_U hr.u1) (pe_fld (pv 0) rfl) (pv 8) (fun _ _ => rfl)) (pa_cons (pe_ix (ix_U hr.u1) (pv 1) (pv 8) (fun _ _ => rfl)) pa_nil))))) pa_nil)))) (pss_one (ps_if (pt_cmpR (op_gtX hr.u64) (pe_tup (pa_cons (pv 6) (pa_cons (pv 4) pa_nil))) (pv 3) (nomark _)) (pss_cons (ps_set (i := 7) sc_Search_go_on.nd rfl (.inl rfl) (pe_callTy call_dictC rfl Fc.f_dict (by rfl) (pa_cons (pv 1) pa_nil))) (pss_cons (ps_asg (pv 6) (pg_sub (pv 7) (pv 4) (set_U hr.u1))) (pss_one (ps_expr (pe_mth c_Search_go_on hr (Nat.le_refl _) passL (pv 0) (pa_cons (pv 7) (pa_cons (pe_callB (call_max2 rfl) rfl Fc.f_max (by rfl) (pa_cons (pv 2) (pa_cons (pe_g c_end_of.quiet hr (Nat.le_trans (by decide) hj) passL rfl (pa_cons (pv 5) (pa_cons (pv 6) pa_nil))) pa_nil))) (pa_cons (pe_tup (pa_cons (pv 6) (pa_cons (pv 4) pa_nil))) pa_nil)))))))) pss_nil))) pss_nil)))))), (tsm_seq (tsm_if (ttm_lift (ttv_and (ttv_test (tev_op (tev_fld Fc.c_Search Fc.n_Search_best) (tev_c fun _ => .non) ov_notN)) (ttv_or (ttv_test (tev_op (tev_var (i := 2)) (tev_fld Fc.c_Search Fc.n_Search_best) ov_ge)) (ttv_test (tev_op (tev_fld Fc.c_Search Fc.n_Search_best) (tev_fld Fc.c_Search Fc.n_Search_floor) ov_eq))))) tsm_retN tsm_next) (tsm_seq (tsm_if (ttm_lift (ttv_test (tev_op (tev_cb (tav_cons (tev_var (i := 1)) tav_nil) cb_len) (tev_cb (tav_cons (tev_fld Fc.c_Search Fc.n_Search_things) tav_nil) cb_len) ov_eq))) (tsm_seq (tsm_setF Fc.c_Search Fc.n_Search_best (tem_lift (tev_var (i := 2)))) (tsm_setF Fc.c_Search Fc.n_Search_best_places (tem_new (ten_lc (TIf.v (tif_rng1 (tav_cons (tev_cb (tav_cons (tev_fld Fc.c_Search Fc.n_Search_things) tav_nil) cb_len) tav_nil))) tgq_name (by decide) ttv_yes (tev_op (tev_var (i := 1)) (tev_var (i := 4)) ov_ix))))) tsm_next) (tsm_for (tim_lift (tif_enumT (tav_cons (tev_fld Fc.c_Search Fc.n_Search_things) tav_nil))) (tgq_tup (tgsq_cons tgq_name (tgsq_cons tgq_name tgsq_nil))) (tsm_if (ttm_lift (ttv_test (tev_op (tev_var (i := 4)) (tev_var (i := 1)) ov_nin))) (tsm_seq (tsm_set (tem_lift (tev_call (qlen_cons (qlen_cons qlen_nil)) (tav_cons (tev_var (i := 5)) (tav_cons (tev_n (ten_lc (tiv_any (tev_op (tev_fld Fc.c_Search Fc.n_Search_mates) (tev_var (i := 4)) ov_ix)) tgq_name (by decide) (ttv_test (tev_op (tev_var (i := 8)) (tev_var (i := 1)) ov_in)) (tev_tup (tav_cons (tev_op (tev_fld Fc.c_Search Fc.n_Search_things) (tev_var (i := 8)) ov_ix) (tav_cons (tev_op (tev_var (i := 1)) (tev_var (i := 8)) ov_ix) tav_nil))))) tav_nil))))) (tsm_if (ttm_lift (ttv_test (tev_op (tev_tup (tav_cons (tev_var (i := 6)) (tav_cons (tev_var (i := 4)) tav_nil))) (tev_var (i := 3)) ov_gtX))) (tsm_seq (tsm_set (tem_new (ten_cb (tav_cons (tev_var (i := 1)) tav_nil) cn_dict))) (tsm_seq (tsm_setU (tem_lift (tev_var (i := 6))) (tev_var (i := 4))) (tsm_drop (tem_meth rfl (tam_ref (tam_val (tem_lift (tev_cb (tav_cons (tev_var (i := 2)) (tav_cons (tev_call (qlen_cons (qlen_cons qlen_nil)) (tav_cons (tev_var (i := 5)) (tav_cons (tev_var (i := 6)) tav_nil))) tav_nil)) cb_max2)) (tam_val (tem_lift (tev_tup (tav_cons (tev_var (i := 6)) (tav_cons (tev_var (i := 4)) tav_nil)))) tam_nil))))))) tsm_next)) tsm_next)))), by decide⟩
theorem bad_Search_go_on {j : Nat} {g : List O → FR} (hb : g = fun _ => .bad) {f : Addr} {fd : FuncData} (Fc : Fct K cl mg) (F : FunD K "go_on" "Search.go_on" (defArgs s_Search_go_on) (defBody s_Search_go_on) (defScope s_Search_go_on) [] [] f fd) (hm : Meth K (cl 0) "go_on" f) : MethG P w K mg base j (cl 0) "go_on" (spM ⟨K, cl⟩ 4 g) := MethG.bad (ps := ["self", "places", "top", "last"]) hb Fc.c_Search hm (F.bindsN fun _ _ _ _ _ _ us hl => match us, hl with | [_, _, _, _], _ => rfl)
noncomputable def grp_Search_go_on : Nat → Nat → List O → FR
  | 0, _ => fun _ => .bad
  | n + 1, _ => defN 5 [true, true, false, false] (m_Search_go_on (grp_Search_go_on n 0))
noncomputable def f_Search_go_on : List O → FR := grp_Search_go_on 45 0
theorem all_Search_go_on (Fc : Fct K cl mg) {a_Search_go_on : Addr} {fd_Search_go_on : FuncData} (F_Search_go_on : FunD K "go_on" "Search.go_on" (defArgs s_Search_go_on) (defBody s_Search_go_on) (defScope s_Search_go_on) [] [] a_Search_go_on fd_Search_go_on) (g_Search_go_on : Meth K (cl 0) "go_on" a_Search_go_on) (c_least_place : CalG P w K mg base 3 "least_place" (spM ⟨K, cl⟩ 2 f_least_place)) (c_end_of : CalG P w K mg base 1 "end_of" (spM ⟨K, cl⟩ 2 f_end_of)) : ∀ n : Nat, MethG P w K mg base (3 + n) (cl 0) "go_on" (spM ⟨K, cl⟩ 4 (grp_Search_go_on n 0))
  | 0 => bad_Search_go_on rfl Fc F_Search_go_on g_Search_go_on
  | n + 1 => by
    have ih := all_Search_go_on Fc F_Search_go_on g_Search_go_on c_least_place c_end_of n
    exact ok_Search_go_on (Nat.le_add_right _ _) Fc F_Search_go_on g_Search_go_on c_least_place c_end_of ih
abbrev s_least : Stmt := topS 18
theorem sc_least : FnScope ["things", "pairs", "search"] ["things", "pairs"] (defScope s_least) := ⟨rfl, rfl, rfl, by decide +kernel, rfl, by decide +kernel, by decide +kernel⟩
noncomputable def m_least : MS := (sSeq (sIf (bLift (qB (qOp oGt (qCb oLen (qCons (qVar 0) qNil)) (qC (.int 8))))) sNever sNext) (sSeq (sSet 2 (mMake 0 f_Search___init__ (mCons (mLift (qVar 0)) (mCons (mLift (qVar 1)) mNil)))) (sSeq (sDrop (mMeth 0 2 "go_on" f_Search_go_on [none, none, none] (mCons (mNew qDk0) (mCons (mLift (qC (.int 0))) (mCons (mLift (qTup (qCons (qC (.int 0)) (qCons (qUn oNeg (qC (.int 1))) qNil)))) mNil))))) (sRet (mTup (mCons (mLift (qFld 0 2 "best")) (mCons (mMoveF 0 2 "best_places") mNil)))))))
noncomputable def f_least : List O → FR := defN 1 [false, false] m_least
theorem ok_least {f : Addr} {fd : FuncData} (Fc : Fct K cl mg) (F : FunD K "least" "least" (defArgs s_least) (defBody s_least) (defScope s_least) [] [] f fd) (g : mg "least" = some (.ref f)) (c_Search___init__ : MakG P w K mg base 46 "Search" (cl 0) (spM ⟨K, cl⟩ 3 f_Search___init__)) (c_Search_go_on : MethG P w K mg base 48 (cl 0) "go_on" (spM ⟨K, cl⟩ 4 f_Search_go_on)) : CalG P w K mg base 49 "least" (spM ⟨K, cl⟩ 2 f_least) := by
  refine ⟨f, fd, ["things", "pairs"], ?_, g, F.kp, F.bindsN fun _ _ _ _ _ _ us hl => match us, hl with | [_, _], _ => rfl⟩
  refine def_okN (io := [false, false]) (more := 1) (m := m_least) F sc_least rfl rfl ?_
  intro cdv A outer s H E hr
  exact ⟨_, _, (pss_cons (ps_if (pt_cmpR op_gt (pe_callB call_lenU rfl Fc.f_len (by rfl) (pa_cons (pv 0) pa_nil)) (pe_gi rfl Fc.g_MOST) (nomark _)) (pss_one ps_never) pss_nil) (pss_cons (ps_set (i := 2) sc_least.nd rfl (.inl rfl) (pe_new c_Search___init__ hr (by decide) passL rfl (pa_cons (pv 0) (pa_cons (pv 1) pa_nil)))) (pss_cons (ps_expr (pe_mth c_Search_go_on hr (by decide) passL (pv 2) (pa_cons pe_dnewK (pa_cons pe_int (pa_cons (pe_tup (pa_cons pe_int (pa_cons (pe_un un_neg pe_int) pa_nil))) pa_nil))))) (pss_one (ps_ret (pe_tup (pa_cons (pe_fld (pv 2) rfl) (pa_cons (pe_fld (pv 2) rfl) pa_nil)))))))), (tsm_seq (tsm_if (ttm_lift (ttv_test (tev_op (tev_cb (tav_cons (tev_var (i := 0)) tav_nil) cb_len) (tev_c fun _ => .int _) ov_gt))) tsm_never tsm_next) (tsm_seq (tsm_set (tem_make rfl (tam_val (tem_lift (tev_var (i := 0))) (tam_val (tem_lift (tev_var (i := 1))) tam_nil)) (cons_len (cons_len nil_len)))) (tsm_seq (tsm_drop (tem_meth rfl (tam_val (tem_new ten_dk0) (tam_val (tem_lift (tev_c fun _ => .int _)) (tam_val (tem_lift (tev_tup (tav_cons (tev_c fun _ => .int _) (tav_cons (tev_un (tev_c fun _ => .int _) uv_neg) tav_nil)))) tam_nil))))) (tsm_ret (tem_tup (tam_val (tem_lift (tev_fld Fc.c_Search Fc.n_Search_best)) (tam_val (tem_moveF Fc.c_Search Fc.n_Search_best_places) tam_nil))))))), by decide⟩
abbrev s__law_draw : Stmt := topS 22
theorem sc__law_draw : FnScope ["_law_tape_here", "_law_many", "_law_found", "_law_once", "_law_twice"] ["_law_tape_here", "_law_many"] (defScope s__law_draw) := ⟨rfl, rfl, rfl, by decide +kernel, rfl, by decide +kernel, by decide +kernel⟩
noncomputable def m__law_draw : MS := (sSeq (sIf (bLift (qB (qOp oGt (qOp oIx (qVar 0) (qC (.int 0))) (qC (.int 0))))) (sSeq (sSet 2 (mLift (qOp oMod (qOp oIx (qVar 0) (qC (.int 0))) (qVar 1)))) (sSeq (sSetU 0 (qC (.int 0)) (mLift (qOp oDiv (qOp oIx (qVar 0) (qC (.int 0))) (qVar 1)))) (sRet (mLift (qVar 2))))) sNext) (sSeq (sSetU 0 (qC (.int 2)) (mLift (qOp oAdd (qOp oIx (qVar 0) (qC (.int 2))) (qC (.int 1))))) (sSeq (sSet 3 (mLift (qOp oMod (qOp oPow (qOp oAdd (qOp oIx (qVar 0) (qC (.int 1))) (qOp oMul (qC (.int 39373)) (qOp oIx (qVar 0) (qC (.int 2))))) (qC (.int 5))) (qC (.int 2147483647))))) (sSeq (sSet 4 (mLift (qOp oMod (qOp oMul (qOp oAdd (qVar 3) (qOp oIx (qVar 0) (qC (.int 2)))) (qOp oAdd (qOp oAdd (qOp oMod (qVar 3) (qC (.int 40009))) (qC (.int 7))) (qOp oIx (qVar 0) (qC (.int 2))))) (qC (.int 2147483629))))) (sRet (mLift (qOp oMod (qOp oDiv (qOp oMod (qOp oAdd (qOp oMul (qVar 4) (qC (.int 48271))) (qVar 3)) (qC (.int 2147483587))) (qC (.int 64))) (qVar 1))))))))
noncomputable def f__law_draw : List O → FR := defN 3 [true, false] m__law_draw
theorem ok__law_draw {f : Addr} {fd : FuncData} (Fc : Fct K cl mg) (F : FunD K "_law_draw" "_law_draw" (defArgs s__law_draw) (defBody s__law_draw) (defScope s__law_draw) [] [] f fd) (g : mg "_law_draw" = some (.ref f)) : CalG P w K mg base 1 "_law_draw" (spM ⟨K, cl⟩ 2 f__law_draw) := by
  refine ⟨f, fd, ["_law_tape_here", "_law_many"], ?_, g, F.kp, F.bindsN fun _ _ _ _ _ _ us hl => match us, hl with | [_, _], _ => rfl⟩
  refine def_okN (io := [true, false]) (more := 3) (m := m__law_draw) F sc__law_draw rfl rfl ?_
  intro cdv A outer s H E hr
  exact ⟨_, _, (pss_cons (ps_if (pt_cmpR op_gt (pe_ix (ix_U hr.u1) (pv 0) pe_int (fun _ _ => rfl)) pe_int (nomark _)) (pss_cons (ps_set (i := 2) sc__law_draw.nd rfl (.inl rfl) (pe_op op_mod (pe_ix (ix_U hr.u1) (pv 0) pe_int (fun _ _ => rfl)) (pv 1))) (pss_cons (ps_asg (pe_op op_fdivW (pe_ix (ix_U hr.u1) (pv 0) pe_int (fun _ _ => rfl)) (pv 1)) (pg_sub (pv 0) pe_int (set_U hr.u1))) (pss_one (ps_ret (pv 2))))) pss_nil) (pss_cons (ps_asg (pe_op op_addU (pe_ix (ix_U hr.u1) (pv 0) pe_int (fun _ _ => rfl)) pe_int) (pg_sub (pv 0) pe_int (set_U hr.u1))) (pss_cons (ps_set (i := 3) sc__law_draw.nd rfl (.inl rfl) (pe_op op_mod (pe_op op_pow (pe_op op_addU (pe_ix (ix_U hr.u1) (pv 0) pe_int (fun _ _ => rfl)) (pe_op op_mulU pe_int (pe_ix (ix_U hr.u1) (pv 0) pe_int (fun _ _ => rfl)))) pe_int) pe_int)) (pss_cons (ps_set (i := 4) sc__law_draw.nd rfl (.inl rfl) (pe_op op_mod (pe_op op_mulU (pe_op op_addU (pv 3) (pe_ix (ix_U hr.u1) (pv 0) pe_int (fun _ _ => rfl))) (pe_op op_addU (pe_op op_addU (pe_op op_mod (pv 3) pe_int) pe_int) (pe_ix (ix_U hr.u1) (pv 0) pe_int (fun _ _ => rfl)))) pe_int)) (pss_one (ps_ret (pe_op op_mod (pe_op op_fdivW (pe_op op_mod (pe_op op_addU (pe_op op_mulU (pv 4) pe_int) (pv 3)) pe_int) pe_int) (pv 1)))))))), (tsm_seq (tsm_if (ttm_lift (ttv_test (tev_op (tev_op (tev_var (i := 0)) (tev_c fun _ => .int _) ov_ix) (tev_c fun _ => .int _) ov_gt))) (tsm_seq (tsm_set (tem_lift (tev_op (tev_op (tev_var (i := 0)) (tev_c fun _ => .int _) ov_ix) (tev_var (i := 1)) ov_mod))) (tsm_seq (tsm_setU (tem_lift (tev_op (tev_op (tev_var (i := 0)) (tev_c fun _ => .int _) ov_ix) (tev_var (i := 1)) ov_div)) (tev_c fun _ => .int _)) (tsm_ret (tem_lift (tev_var (i := 2)))))) tsm_next) (tsm_seq (tsm_setU (tem_lift (tev_op (tev_op (tev_var (i := 0)) (tev_c fun _ => .int _) ov_ix) (tev_c fun _ => .int _) ov_add)) (tev_c fun _ => .int _)) (tsm_seq (tsm_set (tem_lift (tev_op (tev_op (tev_op (tev_op (tev_var (i := 0)) (tev_c fun _ => .int _) ov_ix) (tev_op (tev_c fun _ => .int _) (tev_op (tev_var (i := 0)) (tev_c fun _ => .int _) ov_ix) ov_mul) ov_add) (tev_c fun _ => .int _) ov_pow) (tev_c fun _ => .int _) ov_mod))) (tsm_seq (tsm_set (tem_lift (tev_op (tev_op (tev_op (tev_var (i := 3)) (tev_op (tev_var (i := 0)) (tev_c fun _ => .int _) ov_ix) ov_add) (tev_op (tev_op (tev_op (tev_var (i := 3)) (tev_c fun _ => .int _) ov_mod) (tev_c fun _ => .int _) ov_add) (tev_op (tev_var (i := 0)) (tev_c fun _ => .int _) ov_ix) ov_add) ov_mul) (tev_c fun _ => .int _) ov_mod))) (tsm_ret (tem_lift (tev_op (tev_op (tev_op (tev_op (tev_op (tev_var (i := 4)) (tev_c fun _ => .int _) ov_mul) (tev_var (i := 3)) ov_add) (tev_c fun _ => .int _) ov_mod) (tev_c fun _ => .int _) ov_div) (tev_var (i := 1)) ov_mod))))))), by decide⟩
abbrev s__law_mixed : Stmt := topS 24
theorem sc__law_mixed : FnScope ["_law_tape_here", "_law_some_here", "_law_left", "_law_found"] ["_law_tape_here", "_law_some_here"] (defScope s__law_mixed) := ⟨rfl, rfl, rfl, by decide +kernel, rfl, by decide +kernel, by decide +kernel⟩
noncomputable def m__law_mixed : MS := (sSeq (sPar 2 3 (mCons (mNew (qCb oList (qCons (qVar 1) qNil))) (mCons (mNew (qLst qNil)) mNil))) (sSeq (sWhile (bLift (qB (qOp oNe (qVar 2) (qFz (qLst qNil))))) (sDrop (mMt 3 fAppend (mCons (mMt 2 fPopAt (mCons (frzM (mCall f__law_draw [some 0, none] (mRef 0 (mCons (mLift (qCb oLen (qCons (qVar 2) qNil))) mNil)))) mNil)) mNil)))) (sRet (mMove 3))))
noncomputable def f__law_mixed : List O → FR := defN 2 [true, false] m__law_mixed
theorem ok__law_mixed {f : Addr} {fd : FuncData} (Fc : Fct K cl mg) (F : FunD K "_law_mixed" "_law_mixed" (defArgs s__law_mixed) (defBody s__law_mixed) (defScope s__law_mixed) [] [] f fd) (g : mg "_law_mixed" = some (.ref f)) (c__law_draw : CalG P w K mg base 1 "_law_draw" (spM ⟨K, cl⟩ 2 f__law_draw)) : CalG P w K mg base 2 "_law_mixed" (spM ⟨K, cl⟩ 2 f__law_mixed) := by
  refine ⟨f, fd, ["_law_tape_here", "_law_some_here"], ?_, g, F.kp, F.bindsN fun _ _ _ _ _ _ us hl => match us, hl with | [_, _], _ => rfl⟩
  refine def_okN (io := [true, false]) (more := 2) (m := m__law_mixed) F sc__law_mixed rfl rfl ?_
  intro cdv A outer s H E hr
  exact ⟨_, _, (pss_cons (ps_par (i := 2) (j := 3) rfl sc__law_mixed.nd rfl rfl (by decide) rfl rfl (pa_cons (pe_callTy call_list_of rfl Fc.f_list (by rfl) (pa_cons (pv 1) pa_nil)) (pa_cons (pe_lst pa_nil) pa_nil)) rfl) (pss_cons (ps_while PassesOwn.never (pt_cmpR (op_neU hr.u64) (pv 2) (pe_lst pa_nil) (nomark _)) (pss_one (ps_expr (pe_bm PySem.F.plainAttrs_list PySem.F.slot_list_append PySem.F.type_list_append mt_append (pv 3) (pa_cons (pe_bm PySem.F.plainAttrs_list PySem.F.slot_list_pop PySem.F.type_list_pop mt_popAt (pv 2) (pa_cons (pe_g c__law_draw hr (by decide) passL rfl (pa_cons (pv 0) (pa_cons (pe_callB call_lenU rfl Fc.f_len (by rfl) (pa_cons (pv 2) pa_nil)) pa_nil))) pa_nil)) pa_nil))))) (pss_one (ps_ret (pv 3))))), (tsm_seq (tsm_par (tam_val (tem_new (ten_cb (tav_cons (tev_var (i := 1)) tav_nil) cn_list)) (tam_val (tem_new (ten_lst tav_nil)) tam_nil))) (tsm_seq (tsm_while (ttm_lift (ttv_test (tev_op (tev_var (i := 2)) (tev_n (ten_lst tav_nil)) ov_ne))) (tsm_drop (tem_mt (tam_val (tem_mt (tam_val (tem_frz (tem_call rfl (tam_ref (tam_val (tem_lift (tev_cb (tav_cons (tev_var (i := 2)) tav_nil) cb_len)) tam_nil)))) tam_nil) lm_popAt) tam_nil) lm_append))) (tsm_ret tem_move))), by decide⟩
abbrev s__law_some : Stmt := topS 35
theorem sc__law_some : FnScope ["_law_tape_here", "_law_things", "_law_pairs_here", "_law_many", "_law_found", "_law_turn", "_law_order", "_law_places_here", "_law_at", "_law_by", "_law_moved_one", "_law_one", "_law_common", "_law_size", "_law_border", "_law_higher", "_law_place"] ["_law_tape_here", "_law_things", "_law_pairs_here"] (defScope s__law_some) := ⟨rfl, rfl, rfl, by decide +kernel, rfl, by decide +kernel, by decide +kernel⟩
noncomputable def m__law_some_1 : MS := (sSet 3 (mLift (qCb oLen (qCons (qVar 1) qNil))))
noncomputable def m__law_some_2 : MS := (sSet 4 (mNew (qLst (qCons (qOp oIx (qCall (qOf f_least) (qCons (qVar 1) (qCons (qVar 2) qNil))) (qC (.int 1))) qNil))))
noncomputable def m__law_some_3 : MS := (sSet 6 (frzM (mCall f__law_mixed [some 0, none] (mRef 0 (mCons (mLift (qFz (qLrg1 (qVar 3)))) mNil)))))
noncomputable def m__law_some_4 : MS := (sDrop (mMt 4 fAppend (mCons (mLift (qCall (qOf f__law_put) (qCons (qVar 1) (qCons (qVar 2) (qCons (qVar 6) qNil))))) mNil)))
noncomputable def m__law_some_5 : MS := (sFor (iLift (qRng1 (qCons (qC (.int 3)) qNil))) (fName 5) (sSeq m__law_some_3 m__law_some_4))
noncomputable def m__law_some_6 : MS := (sPar 8 9 (mCons (frzM (mCall f__law_draw [some 0, none] (mRef 0 (mCons (mLift (qVar 3)) mNil)))) (mCons (mOp oIx (mLift (qFz (qLst (qCons (qC (.int 1)) (qCons (qUn oNeg (qC (.int 1))) (qCons (qC (.int 2)) qNil)))))) (frzM (mCall f__law_draw [some 0, none] (mRef 0 (mCons (mLift (qC (.int 3))) mNil))))) mNil)))
noncomputable def m__law_some_7 : MS := (sSet 10 (mLift (qCb oMax2 (qCons (qC (.int 0)) (qCons (qOp oAdd (qOp oIx (qVar 7) (qVar 8)) (qOp oMul (qVar 9) (qOp oIx (qOp oIx (qVar 1) (qVar 8)) (qC (.int 1))))) qNil)))))
noncomputable def m__law_some_8 : MS := (sDrop (mMt 4 fAppend (mCons (mLift (qOp oAdd (qOp oAdd (qSl (qVar 7) qNo (qPart (qVar 8))) (qFz (qLst (qCons (qVar 10) qNil)))) (qSl (qVar 7) (qPart (qOp oAdd (qVar 8) (qC (.int 1)))) qNo))) mNil)))
noncomputable def m__law_some_9 : MS := (sSet 11 (mLift (qOp oAdd (qOp oIx (qVar 7) (qVar 8)) (qC (.int 1)))))
noncomputable def m__law_some_10 : MS := (sDrop (mMt 4 fAppend (mCons (mLift (qOp oAdd (qOp oAdd (qSl (qVar 7) qNo (qPart (qVar 8))) (qFz (qLst (qCons (qVar 11) qNil)))) (qSl (qVar 7) (qPart (qOp oAdd (qVar 8) (qC (.int 1)))) qNo))) mNil)))
noncomputable def m__law_some_11 : MS := (sIf (bLift (qB (qOp oNe (qVar 7) (qFz (qLst qNil))))) (sSeq m__law_some_6 (sSeq m__law_some_7 (sSeq m__law_some_8 (sSeq m__law_some_9 m__law_some_10)))) sNext)
noncomputable def m__law_some_12 : MS := (sFor (iLift (qIfA (qFz (qCb oList (qCons (qVar 4) qNil))))) (fName 7) m__law_some_11)
noncomputable def m__law_some_13 : MS := (sSet 12 (mLift (qOp oMul (qVar 12) (qVar 14))))
noncomputable def m__law_some_14 : MS := (sFor (iLift (qIfA (qVar 1))) (fTup 2 (fCons (fName 13) (fCons (fName 14) fNil))) m__law_some_13)
noncomputable def m__law_some_15 : MS := (sSet 15 (mLift (qFz (qLc (qItA (qOp oIx (qVar 4) (qC (.int 0)))) (fName 16) qYes (qOp oAdd (qVar 16) (qVar 12)) [16]))))
noncomputable def m__law_some_16 : MS := (sRet (mLift (qOp oAdd (qVar 4) (qFz (qLst (qCons (qCb oTuple (qCons (qOp oIx (qVar 4) (qC (.int 0))) qNil)) (qCons (qVar 15) qNil)))))))
noncomputable def m__law_some : MS := (sSeq m__law_some_1 (sSeq m__law_some_2 (sSeq m__law_some_5 (sSeq m__law_some_12 (sSeq (sSet 12 (mLift (qC (.int 1)))) (sSeq m__law_some_14 (sSeq m__law_some_15 m__law_some_16)))))))
noncomputable def f__law_some : List O → FR := defN 14 [true, false, false] m__law_some
theorem ok__law_some {f : Addr} {fd : FuncData} (Fc : Fct K cl mg) (F : FunD K "_law_some" "_law_some" (defArgs s__law_some) (defBody s__law_some) (defScope s__law_some) [] [] f fd) (g : mg "_law_some" = some (.ref f)) (c_least : CalG P w K mg base 49 "least" (spM ⟨K, cl⟩ 2 f_least)) (c__law_mixed : CalG P w K mg base 2 "_law_mixed" (spM ⟨K, cl⟩ 2 f__law_mixed)) (c__law_put : CalG P w K mg base 3 "_law_put" (spM ⟨K, cl⟩ 3 f__law_put)) (c__law_draw : CalG P w K mg base 1 "_law_draw" (spM ⟨K, cl⟩ 2 f__law_draw)) : CalG P w K mg base 50 "_law_some" (spM ⟨K, cl⟩ 3 f__law_some) := by
  refine ⟨f, fd, ["_law_tape_here", "_law_things", "_law_pairs_here"], ?_, g, F.kp, F.bindsN fun _ _ _ _ _ _ us hl => match us, hl with | [_, _, _], _ => rfl⟩
  refine def_okN (io := [true, false, false]) (more := 14) (m := m__law_some) F sc__law_some rfl rfl ?_
  intro cdv A outer s H E hr
  exact ⟨_, _, (pss_cons (ps_set (i := 3) sc__law_some.nd rfl (.inl rfl) (pe_callB call_lenU rfl Fc.f_len (by rfl) (pa_cons (pv 1) pa_nil))) (pss_cons (ps_set (i := 4) sc__law_some.nd rfl (.inl rfl) (pe_lst (pa_cons (pe_ix (ix_U hr.u1) (pe_g c_least.quiet hr (by decide) passL rfl (pa_cons (pv 1) (pa_cons (pv 2) pa_nil))) pe_int (fun _ _ => rfl)) pa_nil))) (pss_cons (ps_for PassesOwn.never rfl (pi_range1 rfl Fc.f_range (pa_cons pe_int pa_nil)) (pg_name (i := 5) sc__law_some.nd rfl (.inl rfl)) (pss_cons (ps_set (i := 6) sc__law_some.nd rfl (.inl rfl) (pe_g c__law_mixed hr (by decide) passL rfl (pa_cons (pv 0) (pa_cons (pe_listRg rfl rfl Fc.f_list (prg_1 rfl Fc.f_range (pv 3))) pa_nil)))) (pss_one (ps_expr (pe_bm PySem.F.plainAttrs_list PySem.F.slot_list_append PySem.F.type_list_append mt_append (pv 4) (pa_cons (pe_g c__law_put.quiet hr (by decide) passL rfl (pa_cons (pv 1) (pa_cons (pv 2) (pa_cons (pv 6) pa_nil)))) pa_nil)))))) (pss_cons (ps_for PassesOwn.never rfl (pi_any (pe_callTy call_list_of rfl Fc.f_list (by rfl) (pa_cons (pv 4) pa_nil))) (pg_name (i := 7) sc__law_some.nd rfl (.inl rfl)) (pss_one (ps_if (pt_cmpR (op_neU hr.u64) (pv 7) (pe_lst pa_nil) (nomark _)) (pss_cons (ps_par (i := 8) (j := 9) rfl sc__law_some.nd rfl rfl (by decide) rfl rfl (pa_cons (pe_g c__law_draw hr (by decide) passL rfl (pa_cons (pv 0) (pa_cons (pv 3) pa_nil))) (pa_cons (pe_ix (ix_U hr.u1) (pe_lst (pa_cons pe_int (pa_cons (pe_un un_neg pe_int) (pa_cons pe_int pa_nil)))) (pe_g c__law_draw hr (by decide) passL rfl (pa_cons (pv 0) (pa_cons pe_int pa_nil))) (fun _ _ => rfl)) pa_nil)) rfl) (pss_cons (ps_set (i := 10) sc__law_some.nd rfl (.inl rfl) (pe_callB (call_max2 rfl) rfl Fc.f_max (by rfl) (pa_cons pe_int (pa_cons (pe_op op_addU (pe_ix (ix_U hr.u1) (pv 7) (pv 8) (fun _ _ => rfl)) (pe_op op_mulU (pv 9) (pe_ix (ix_U hr.u1) (pe_ix (ix_U hr.u1) (pv 1) (pv 8) (fun _ _ => rfl)) pe_int (fun _ _ => rfl)))) pa_nil)))) (pss_cons (ps_expr (pe_bm PySem.F.plainAttrs_list PySem.F.slot_list_append PySem.F.type_list_append mt_append (pv 4) (pa_cons (pe_op op_addU (pe_op op_addU (pe_slice sl_U (pv 7) po_none (po_some (pv 8))) (pe_lst (pa_cons (pv 10) pa_nil))) (pe_slice sl_U (pv 7) (po_some (pe_op op_addU (pv 8) pe_int)) po_none)) pa_nil))) (pss_cons (ps_set (i := 11) sc__law_some.nd rfl (.inl rfl) (pe_op op_addU (pe_ix (ix_U hr.u1) (pv 7) (pv 8) (fun _ _ => rfl)) pe_int)) (pss_one (ps_expr (pe_bm PySem.F.plainAttrs_list PySem.F.slot_list_append PySem.F.type_list_append mt_append (pv 4) (pa_cons (pe_op op_addU (pe_op op_addU (pe_slice sl_U (pv 7) po_none (po_some (pv 8))) (pe_lst (pa_cons (pv 11) pa_nil))) (pe_slice sl_U (pv 7) (po_some (pe_op op_addU (pv 8) pe_int)) po_none)) pa_nil)))))))) pss_nil))) (pss_cons (ps_set (i := 12) sc__law_some.nd rfl (.inr rfl) pe_int) (pss_cons (ps_for PassesOwn.never rfl (pi_any (pv 1)) (pg_tup rfl (pgs_cons (pg_name (i := 13) sc__law_some.nd rfl (.inl rfl)) (pgs_cons (pg_name (i := 14) sc__law_some.nd rfl (.inl rfl)) pgs_nil))) (pss_one (ps_set (i := 12) sc__law_some.nd rfl (.inr rfl) (pe_op op_mulU (pv 12) (pv 14))))) (pss_cons (ps_setLc (i := 15) (own := [("_law_place", 16)]) rfl sc__law_some.nd rfl rfl (sw_true rfl rfl rfl (by decide +kernel)) (pi_any (pe_ix (ix_U hr.u1) (pv 4) pe_int (fun _ _ => rfl))) (blkOk_by (N := ["_law_tape_here", "_law_things", "_law_pairs_here", "_law_many", "_law_found", "_law_turn", "_law_order", "_law_places_here", "_law_at", "_law_by", "_law_moved_one", "_law_one", "_law_common", "_law_size", "_law_border", "_law_higher", "_law_place"]) (sc := defScope s__law_some) (own := [("_law_place", 16)]) (by decide +kernel)) (fun _ _ _ _ _ => (pg_name (i := 16) sc__law_some.nd rfl (.inl rfl))) (fun _ _ _ _ _ => pts_nil) (fun _ _ _ _ _ => (pe_op op_addU (pv 16) (pv 12)))) (pss_one (ps_ret (pe_op op_addU (pv 4) (pe_lst (pa_cons (pe_callTy call_tuple_of rfl Fc.f_tuple (by rfl) (pa_cons (pe_ix (ix_U hr.u1) (pv 4) pe_int (fun _ _ => rfl)) pa_nil)) (pa_cons (pv 15) pa_nil))))))))))))), (tsm_seq (tsm_set (tem_lift (tev_cb (tav_cons (tev_var (i := 1)) tav_nil) cb_len))) (tsm_seq (tsm_set (tem_new (ten_lst (tav_cons (tev_op (tev_call (qlen_cons (qlen_cons qlen_nil)) (tav_cons (tev_var (i := 1)) (tav_cons (tev_var (i := 2)) tav_nil))) (tev_c fun _ => .int _) ov_ix) tav_nil)))) (tsm_seq (tsm_for (tim_lift (tif_rng1 (tav_cons (tev_c fun _ => .int _) tav_nil))) tgq_name (tsm_seq (tsm_set (tem_frz (tem_call rfl (tam_ref (tam_val (tem_lift (tev_n (ten_lrg1 (tev_var (i := 3))))) tam_nil))))) (tsm_drop (tem_mt (tam_val (tem_lift (tev_call (qlen_cons (qlen_cons (qlen_cons qlen_nil))) (tav_cons (tev_var (i := 1)) (tav_cons (tev_var (i := 2)) (tav_cons (tev_var (i := 6)) tav_nil))))) tam_nil) lm_append)))) (tsm_seq (tsm_for (tim_lift (tif_any (tev_n (ten_cb (tav_cons (tev_var (i := 4)) tav_nil) cn_list)))) tgq_name (tsm_if (ttm_lift (ttv_test (tev_op (tev_var (i := 7)) (tev_n (ten_lst tav_nil)) ov_ne))) (tsm_seq (tsm_par (tam_val (tem_frz (tem_call rfl (tam_ref (tam_val (tem_lift (tev_var (i := 3))) tam_nil)))) (tam_val (tem_op (tem_lift (tev_n (ten_lst (tav_cons (tev_c fun _ => .int _) (tav_cons (tev_un (tev_c fun _ => .int _) uv_neg) (tav_cons (tev_c fun _ => .int _) tav_nil)))))) (tem_frz (tem_call rfl (tam_ref (tam_val (tem_lift (tev_c fun _ => .int _)) tam_nil)))) ov_ix) tam_nil))) (tsm_seq (tsm_set (tem_lift (tev_cb (tav_cons (tev_c fun _ => .int _) (tav_cons (tev_op (tev_op (tev_var (i := 7)) (tev_var (i := 8)) ov_ix) (tev_op (tev_var (i := 9)) (tev_op (tev_op (tev_var (i := 1)) (tev_var (i := 8)) ov_ix) (tev_c fun _ => .int _) ov_ix) ov_mul) ov_add) tav_nil)) cb_max2))) (tsm_seq (tsm_drop (tem_mt (tam_val (tem_lift (tev_op (tev_op (tev_sl (tev_var (i := 7)) tov_no (tov_part (tev_var (i := 8)))) (tev_n (ten_lst (tav_cons (tev_var (i := 10)) tav_nil))) ov_add) (tev_sl (tev_var (i := 7)) (tov_part (tev_op (tev_var (i := 8)) (tev_c fun _ => .int _) ov_add)) tov_no) ov_add)) tam_nil) lm_append)) (tsm_seq (tsm_set (tem_lift (tev_op (tev_op (tev_var (i := 7)) (tev_var (i := 8)) ov_ix) (tev_c fun _ => .int _) ov_add))) (tsm_drop (tem_mt (tam_val (tem_lift (tev_op (tev_op (tev_sl (tev_var (i := 7)) tov_no (tov_part (tev_var (i := 8)))) (tev_n (ten_lst (tav_cons (tev_var (i := 11)) tav_nil))) ov_add) (tev_sl (tev_var (i := 7)) (tov_part (tev_op (tev_var (i := 8)) (tev_c fun _ => .int _) ov_add)) tov_no) ov_add)) tam_nil) lm_append)))))) tsm_next)) (tsm_seq (tsm_set (tem_lift (tev_c fun _ => .int _))) (tsm_seq (tsm_for (tim_lift (tif_any (tev_var (i := 1)))) (tgq_tup (tgsq_cons tgq_name (tgsq_cons tgq_name tgsq_nil))) (tsm_set (tem_lift (tev_op (tev_var (i := 12)) (tev_var (i := 14)) ov_mul)))) (tsm_seq (tsm_set (tem_lift (tev_n (ten_lc (tiv_any (tev_op (tev_var (i := 4)) (tev_c fun _ => .int _) ov_ix)) tgq_name (by decide) ttv_yes (tev_op (tev_var (i := 16)) (tev_var (i := 12)) ov_add))))) (tsm_ret (tem_lift (tev_op (tev_var (i := 4)) (tev_n (ten_lst (tav_cons (tev_cb (tav_cons (tev_op (tev_var (i := 4)) (tev_c fun _ => .int _) ov_ix) tav_nil) cb_tuple) (tav_cons (tev_var (i := 15)) tav_nil)))) ov_add)))))))))), by decide⟩
abbrev s__law_few : Stmt := topS 26
theorem sc__law_few : FnScope ["_law_tape_here", "_law_many", "_law_way", "_law_found", "_law_k", "_law_some_here", "_law_size"] ["_law_tape_here", "_law_many"] (defScope s__law_few) := ⟨rfl, rfl, rfl, by decide +kernel, rfl, by decide +kernel, by decide +kernel⟩
noncomputable def m__law_few : MS := (sSeq (sPar 2 3 (mCons (frzM (mCall f__law_draw [some 0, none] (mRef 0 (mCons (mLift (qC (.int 6))) mNil)))) (mCons (mNew (qLst qNil)) mNil))) (sSeq (sFor (iLift (qRng1 (qCons (qVar 1) qNil))) (fName 4) (sSeq (sSet 5 (frzM (mLst (mCons (mOp oAdd (mLift (qC (.int 1))) (frzM (mCall f__law_draw [some 0, none] (mRef 0 (mCons (mLift (qC (.int 6))) mNil))))) (mCons (mLift (qC (.int 4))) (mCons (mOp oAdd (mLift (qC (.int 1))) (frzM (mCall f__law_draw [some 0, none] (mRef 0 (mCons (mLift (qC (.int 3))) mNil))))) (mCons (mLift (qC (.int 6))) (mCons (mOp oAdd (mLift (qC (.int 1))) (frzM (mCall f__law_draw [some 0, none] (mRef 0 (mCons (mLift (qC (.int 12))) mNil))))) mNil)))))))) (sSeq (sSet 6 (mOp oIx (mOp oAdd (mLift (qVar 5)) (frzM (mLst (mCons (mOp oSub (mLift (qOp oPow (qC (.int 10)) (qC (.int 9)))) (frzM (mCall f__law_draw [some 0, none] (mRef 0 (mCons (mLift (qC (.int 40))) mNil))))) mNil)))) (mLift (qVar 2)))) (sDrop (mMt 3 fAppend (mCons (mTup (mCons (mLift (qVar 6)) (mCons (mOp oIx (frzM (mLst (mCons (mLift (qC (.int 1))) (mCons (mLift (qC (.int 1))) (mCons (mLift (qC (.int 2))) (mCons (mLift (qC (.int 4))) (mCons (mLift (qC (.int 3))) (mCons (mLift (qC (.int 8))) (mCons (mOp oAdd (mLift (qC (.int 1))) (frzM (mCall f__law_draw [some 0, none] (mRef 0 (mCons (mLift (qC (.int 64))) mNil))))) (mCons (mLift (qC (.int 6))) mNil)))))))))) (frzM (mCall f__law_draw [some 0, none] (mRef 0 (mCons (mLift (qC (.int 8))) mNil))))) mNil))) mNil)))))) (sRet (mLift (qCb oTuple (qCons (qVar 3) qNil))))))
noncomputable def f__law_few : List O → FR := defN 5 [true, false] m__law_few
theorem ok__law_few {f : Addr} {fd : FuncData} (Fc : Fct K cl mg) (F : FunD K "_law_few" "_law_few" (defArgs s__law_few) (defBody s__law_few) (defScope s__law_few) [] [] f fd) (g : mg "_law_few" = some (.ref f)) (c__law_draw : CalG P w K mg base 1 "_law_draw" (spM ⟨K, cl⟩ 2 f__law_draw)) : CalG P w K mg base 2 "_law_few" (spM ⟨K, cl⟩ 2 f__law_few) := by
  refine ⟨f, fd, ["_law_tape_here", "_law_many"], ?_, g, F.kp, F.bindsN fun _ _ _ _ _ _ us hl => match us, hl with | [_, _], _ => rfl⟩
  refine def_okN (io := [true, false]) (more := 5) (m := m__law_few) F sc__law_few rfl rfl ?_
  intro cdv A outer s H E hr
  exact ⟨_, _, (pss_cons (ps_par (i := 2) (j := 3) rfl sc__law_few.nd rfl rfl (by decide) rfl rfl (pa_cons (pe_g c__law_draw hr (by decide) passL rfl (pa_cons (pv 0) (pa_cons pe_int pa_nil))) (pa_cons (pe_lst pa_nil) pa_nil)) rfl) (pss_cons (ps_for PassesOwn.never rfl (pi_range1 rfl Fc.f_range (pa_cons (pv 1) pa_nil)) (pg_name (i := 4) sc__law_few.nd rfl (.inl rfl)) (pss_cons (ps_set (i := 5) sc__law_few.nd rfl (.inl rfl) (pe_lst (pa_cons (pe_op op_addU pe_int (pe_g c__law_draw hr (by decide) passL rfl (pa_cons (pv 0) (pa_cons pe_int pa_nil)))) (pa_cons pe_int (pa_cons (pe_op op_addU pe_int (pe_g c__law_draw hr (by decide) passL rfl (pa_cons (pv 0) (pa_cons pe_int pa_nil)))) (pa_cons pe_int (pa_cons (pe_op op_addU pe_int (pe_g c__law_draw hr (by decide) passL rfl (pa_cons (pv 0) (pa_cons pe_int pa_nil)))) pa_nil))))))) (pss_cons (ps_set (i := 6) sc__law_few.nd rfl (.inl rfl) (pe_ix (ix_U hr.u1) (pe_op op_addU (pv 5) (pe_lst (pa_cons (pe_op op_sub (pe_op op_pow pe_int pe_int) (pe_g c__law_draw hr (by decide) passL rfl (pa_cons (pv 0) (pa_cons pe_int pa_nil)))) pa_nil))) (pv 2) (fun _ _ => rfl))) (pss_one (ps_expr (pe_bm PySem.F.plainAttrs_list PySem.F.slot_list_append PySem.F.type_list_append mt_append (pv 3) (pa_cons (pe_tup (pa_cons (pv 6) (pa_cons (pe_ix (ix_U hr.u1) (pe_lst (pa_cons pe_int (pa_cons pe_int (pa_cons pe_int (pa_cons pe_int (pa_cons pe_int (pa_cons pe_int (pa_cons (pe_op op_addU pe_int (pe_g c__law_draw hr (by decide) passL rfl (pa_cons (pv 0) (pa_cons pe_int pa_nil)))) (pa_cons pe_int pa_nil))))))))) (pe_g c__law_draw hr (by decide) passL rfl (pa_cons (pv 0) (pa_cons pe_int pa_nil))) (fun _ _ => rfl)) pa_nil))) pa_nil))))))) (pss_one (ps_ret (pe_callTy call_tuple_of rfl Fc.f_tuple (by rfl) (pa_cons (pv 3) pa_nil)))))), (tsm_seq (tsm_par (tam_val (tem_frz (tem_call rfl (tam_ref (tam_val (tem_lift (tev_c fun _ => .int _)) tam_nil)))) (tam_val (tem_new (ten_lst tav_nil)) tam_nil))) (tsm_seq (tsm_for (tim_lift (tif_rng1 (tav_cons (tev_var (i := 1)) tav_nil))) tgq_name (tsm_seq (tsm_set (tem_frz (tem_lst (tam_val (tem_op (tem_lift (tev_c fun _ => .int _)) (tem_frz (tem_call rfl (tam_ref (tam_val (tem_lift (tev_c fun _ => .int _)) tam_nil)))) ov_add) (tam_val (tem_lift (tev_c fun _ => .int _)) (tam_val (tem_op (tem_lift (tev_c fun _ => .int _)) (tem_frz (tem_call rfl (tam_ref (tam_val (tem_lift (tev_c fun _ => .int _)) tam_nil)))) ov_add) (tam_val (tem_lift (tev_c fun _ => .int _)) (tam_val (tem_op (tem_lift (tev_c fun _ => .int _)) (tem_frz (tem_call rfl (tam_ref (tam_val (tem_lift (tev_c fun _ => .int _)) tam_nil)))) ov_add) tam_nil)))))))) (tsm_seq (tsm_set (tem_op (tem_op (tem_lift (tev_var (i := 5))) (tem_frz (tem_lst (tam_val (tem_op (tem_lift (tev_op (tev_c fun _ => .int _) (tev_c fun _ => .int _) ov_pow)) (tem_frz (tem_call rfl (tam_ref (tam_val (tem_lift (tev_c fun _ => .int _)) tam_nil)))) ov_sub) tam_nil))) ov_add) (tem_lift (tev_var (i := 2))) ov_ix)) (tsm_drop (tem_mt (tam_val (tem_tup (tam_val (tem_lift (tev_var (i := 6))) (tam_val (tem_op (tem_frz (tem_lst (tam_val (tem_lift (tev_c fun _ => .int _)) (tam_val (tem_lift (tev_c fun _ => .int _)) (tam_val (tem_lift (tev_c fun _ => .int _)) (tam_val (tem_lift (tev_c fun _ => .int _)) (tam_val (tem_lift (tev_c fun _ => .int _)) (tam_val (tem_lift (tev_c fun _ => .int _)) (tam_val (tem_op (tem_lift (tev_c fun _ => .int _)) (tem_frz (tem_call rfl (tam_ref (tam_val (tem_lift (tev_c fun _ => .int _)) tam_nil)))) ov_add) (tam_val (tem_lift (tev_c fun _ => .int _)) tam_nil)))))))))) (tem_frz (tem_call rfl (tam_ref (tam_val (tem_lift (tev_c fun _ => .int _)) tam_nil)))) ov_ix) tam_nil))) tam_nil) lm_append))))) (tsm_ret (tem_lift (tev_cb (tav_cons (tev_var (i := 3)) tav_nil) cb_tuple))))), by decide⟩
abbrev s__law_pairs : Stmt := topS 23
theorem sc__law_pairs : FnScope ["_law_tape_here", "_law_many", "_law_way", "_law_found", "_law_t", "_law_u"] ["_law_tape_here", "_law_many"] (defScope s__law_pairs) := ⟨rfl, rfl, rfl, by decide +kernel, rfl, by decide +kernel, by decide +kernel⟩
noncomputable def m__law_pairs : MS := (sSeq (sPar 2 3 (mCons (frzM (mCall f__law_draw [some 0, none] (mRef 0 (mCons (mLift (qC (.int 6))) mNil)))) (mCons (mNew (qLst qNil)) mNil))) (sSeq (sFor (iLift (qRng1 (qCons (qVar 1) qNil))) (fName 4) (sFor (iLift (qRng2 (qCons (qOp oAdd (qVar 4) (qC (.int 1))) (qCons (qVar 1) qNil)))) (fName 5) (sIf (bOr (bLift (qB (qOp oEq (qVar 2) (qC (.int 0))))) (bOr (bLift (qAnd (qB (qOp oEq (qVar 2) (qC (.int 1)))) (qB (qOp oLt (qOp oSub (qVar 5) (qVar 4)) (qC (.int 3)))))) (bAnd (bLift (qB (qOp oGt (qVar 2) (qC (.int 2))))) (bTest (mOp oGt (frzM (mCall f__law_draw [some 0, none] (mRef 0 (mCons (mLift (qOp oSub (qVar 2) (qC (.int 1)))) mNil)))) (mLift (qC (.int 0)))))))) (sDrop (mMt 3 fAppend (mCons (mLift (qTup (qCons (qVar 4) (qCons (qVar 5) qNil)))) mNil))) sNext))) (sRet (mMove 3))))
noncomputable def f__law_pairs : List O → FR := defN 4 [true, false] m__law_pairs
theorem ok__law_pairs {f : Addr} {fd : FuncData} (Fc : Fct K cl mg) (F : FunD K "_law_pairs" "_law_pairs" (defArgs s__law_pairs) (defBody s__law_pairs) (defScope s__law_pairs) [] [] f fd) (g : mg "_law_pairs" = some (.ref f)) (c__law_draw : CalG P w K mg base 1 "_law_draw" (spM ⟨K, cl⟩ 2 f__law_draw)) : CalG P w K mg base 2 "_law_pairs" (spM ⟨K, cl⟩ 2 f__law_pairs) := by
  refine ⟨f, fd, ["_law_tape_here", "_law_many"], ?_, g, F.kp, F.bindsN fun _ _ _ _ _ _ us hl => match us, hl with | [_, _], _ => rfl⟩
  refine def_okN (io := [true, false]) (more := 4) (m := m__law_pairs) F sc__law_pairs rfl rfl ?_
  intro cdv A outer s H E hr
  exact ⟨_, _, (pss_cons (ps_par (i := 2) (j := 3) rfl sc__law_pairs.nd rfl rfl (by decide) rfl rfl (pa_cons (pe_g c__law_draw hr (by decide) passL rfl (pa_cons (pv 0) (pa_cons pe_int pa_nil))) (pa_cons (pe_lst pa_nil) pa_nil)) rfl) (pss_cons (ps_for PassesOwn.never rfl (pi_range1 rfl Fc.f_range (pa_cons (pv 1) pa_nil)) (pg_name (i := 4) sc__law_pairs.nd rfl (.inl rfl)) (pss_one (ps_for PassesOwn.never rfl (pi_range2 rfl Fc.f_range (pa_cons (pe_op op_addU (pv 4) pe_int) (pa_cons (pv 1) pa_nil))) (pg_name (i := 5) sc__law_pairs.nd rfl (.inl rfl)) (pss_one (ps_if (PW.pt (pw_or (pt_cmpR (op_eqU hr.u64) (pv 2) pe_int (nomark _)) (pw_or (PW.pt (pw_and (pt_cmpR (op_eqU hr.u64) (pv 2) pe_int (nomark _)) (pw_and1 (pt_cmpR op_lt (pe_op op_sub (pv 5) (pv 4)) pe_int (nomark _))))) (pw_or1 (PW.pt (pw_and (pt_cmpR op_gt (pv 2) pe_int (nomark _)) (pw_and1 (pt_cmpR op_gt (pe_g c__law_draw hr (by decide) passL rfl (pa_cons (pv 0) (pa_cons (pe_op op_sub (pv 2) pe_int) pa_nil))) pe_int (nomark _))))))))) (pss_one (ps_expr (pe_bm PySem.F.plainAttrs_list PySem.F.slot_list_append PySem.F.type_list_append mt_append (pv 3) (pa_cons (pe_tup (pa_cons (pv 4) (pa_cons (pv 5) pa_nil))) pa_nil)))) pss_nil))))) (pss_one (ps_ret (pv 3))))), (tsm_seq (tsm_par (tam_val (tem_frz (tem_call rfl (tam_ref (tam_val (tem_lift (tev_c fun _ => .int _)) tam_nil)))) (tam_val (tem_new (ten_lst tav_nil)) tam_nil))) (tsm_seq (tsm_for (tim_lift (tif_rng1 (tav_cons (tev_var (i := 1)) tav_nil))) tgq_name (tsm_for (tim_lift (tif_rng2 (tav_cons (tev_op (tev_var (i := 4)) (tev_c fun _ => .int _) ov_add) (tav_cons (tev_var (i := 1)) tav_nil)))) tgq_name (tsm_if (ttm_or (ttm_lift (ttv_test (tev_op (tev_var (i := 2)) (tev_c fun _ => .int _) ov_eq))) (ttm_or (ttm_lift (ttv_and (ttv_test (tev_op (tev_var (i := 2)) (tev_c fun _ => .int _) ov_eq)) (ttv_test (tev_op (tev_op (tev_var (i := 5)) (tev_var (i := 4)) ov_sub) (tev_c fun _ => .int _) ov_lt)))) (ttm_and (ttm_lift (ttv_test (tev_op (tev_var (i := 2)) (tev_c fun _ => .int _) ov_gt))) (ttm_test (tem_op (tem_frz (tem_call rfl (tam_ref (tam_val (tem_lift (tev_op (tev_var (i := 2)) (tev_c fun _ => .int _) ov_sub)) tam_nil)))) (tem_lift (tev_c fun _ => .int _)) ov_gt))))) (tsm_drop (tem_mt (tam_val (tem_lift (tev_tup (tav_cons (tev_var (i := 4)) (tav_cons (tev_var (i := 5)) tav_nil)))) tam_nil) lm_append)) tsm_next))) (tsm_ret tem_move))), by decide⟩
abbrev s_is_number : Stmt := topS 4
theorem sc_is_number : FnScope ["thing", "least"] ["thing", "least"] (defScope s_is_number) := ⟨rfl, rfl, rfl, by decide +kernel, rfl, by decide +kernel, by decide +kernel⟩
noncomputable def m_is_number : MS := (sRet (mLift (qAndV (qIsi "int" (qVar 0)) (qAndV (qNotV (qIsi "bool" (qVar 0))) (qOp oGe (qVar 0) (qVar 1))))))
noncomputable def f_is_number : List O → FR := defN 0 [false, false] m_is_number
theorem ok_is_number {f : Addr} {fd : FuncData} (Fc : Fct K cl mg) (F : FunD K "is_number" "is_number" (defArgs s_is_number) (defBody s_is_number) (defScope s_is_number) [] [] f fd) (g : mg "is_number" = some (.ref f)) : CalG P w K mg base 1 "is_number" (spM ⟨K, cl⟩ 2 f_is_number) := by
  refine ⟨f, fd, ["thing", "least"], ?_, g, F.kp, F.bindsN fun _ _ _ _ _ _ us hl => match us, hl with | [_, _], _ => rfl⟩
  refine def_okN (io := [false, false]) (more := 0) (m := m_is_number) F sc_is_number rfl rfl ?_
  intro cdv A outer s H E hr
  exact ⟨_, _, (pss_one (ps_ret (pe_and (pe_callB call_isi1 rfl Fc.f_isinstance (by rfl) (pa_cons (pv 0) (pa_cons (pe_bltn (v := .ty "int") (u := .type "int") rfl Fc.f_int (by rfl) rfl) pa_nil))) (pe_and (pe_not (pe_callB call_isi1 rfl Fc.f_isinstance (by rfl) (pa_cons (pv 0) (pa_cons (pe_bltn (v := .ty "bool") (u := .type "bool") rfl Fc.f_bool (by rfl) rfl) pa_nil)))) (pe_one (pe_cmpR op_ge (pv 0) (pv 1) (nomark _))))))), (tsm_ret (tem_lift (tev_andV (tev_isi (tev_var (i := 0))) (tev_andV (tev_notV (tev_isi (tev_var (i := 0)))) (tev_op (tev_var (i := 0)) (tev_var (i := 1)) ov_ge))))), by decide⟩
abbrev s_are_places : Stmt := topS 12
theorem sc_are_places : FnScope ["things", "places", "place", "thing"] ["things", "places"] (defScope s_are_places) := ⟨rfl, rfl, rfl, by decide +kernel, rfl, by decide +kernel, by decide +kernel⟩
noncomputable def m_are_places : MS := (sSeq (sIf (bLift (qOr (qNot (qB (qIsi "list" (qVar 1)))) (qB (qOp oNe (qCb oLen (qCons (qVar 1) qNil)) (qCb oLen (qCons (qVar 0) qNil)))))) (sRet (mLift (qC (.bool false)))) sNext) (sSeq (sIf (bLift (qNot (qB (qCb oAll (qCons (qFz (qLc (qItA (qVar 1)) (fName 2) qYes (qCall (qOf f_is_number) (qCons (qVar 2) (qCons (qC (.int 0)) qNil))) [2])) qNil))))) (sRet (mLift (qC (.bool false)))) sNext) (sRet (mLift (qCb oAll (qCons (qFz (qLc (qZipV (qCons (qVar 0) (qCons (qVar 1) qNil))) (fTup 2 (fCons (fName 3) (fCons (fName 2) fNil))) qYes (qOp oEq (qOp oMod (qVar 2) (qOp oIx (qVar 3) (qC (.int 1)))) (qC (.int 0))) [3, 2])) qNil))))))
noncomputable def f_are_places : List O → FR := defN 2 [false, false] m_are_places
theorem ok_are_places {f : Addr} {fd : FuncData} (Fc : Fct K cl mg) (F : FunD K "are_places" "are_places" (defArgs s_are_places) (defBody s_are_places) (defScope s_are_places) [] [] f fd) (g : mg "are_places" = some (.ref f)) (c_is_number : CalG P w K mg base 1 "is_number" (spM ⟨K, cl⟩ 2 f_is_number)) : CalG P w K mg base 2 "are_places" (spM ⟨K, cl⟩ 2 f_are_places) := by
  refine ⟨f, fd, ["things", "places"], ?_, g, F.kp, F.bindsN fun _ _ _ _ _ _ us hl => match us, hl with | [_, _], _ => rfl⟩
  refine def_okN (io := [false, false]) (more := 2) (m := m_are_places) F sc_are_places rfl rfl ?_
  intro cdv A outer s H E hr
  exact ⟨_, _, (pss_cons (ps_if (PW.pt (pw_or (pt_not (pt_val (pe_callB call_isi1 rfl Fc.f_isinstance (by rfl) (pa_cons (pv 1) (pa_cons (pe_bltn (v := .ty "list") (u := .type "list") rfl Fc.f_list (by rfl) rfl) pa_nil))))) (pw_or1 (pt_cmpR (op_neU hr.u64) (pe_callB call_lenU rfl Fc.f_len (by rfl) (pa_cons (pv 1) pa_nil)) (pe_callB call_lenU rfl Fc.f_len (by rfl) (pa_cons (pv 0) pa_nil)) (nomark _))))) (pss_one (ps_ret pe_bl)) pss_nil) (pss_cons (ps_if (pt_not (pt_val (pe_callB (cr_all rfl) rfl Fc.f_all (by rfl) (pa_cons (pe_lc (own := [("place", 2)]) rfl sc_are_places.nd (pi_any (pv 1)) (blkOk_by (N := ["things", "places", "place", "thing"]) (sc := defScope s_are_places) (own := [("place", 2)]) (by decide +kernel)) (fun _ _ _ _ _ => (pg_name (i := 2) sc_are_places.nd rfl (.inl rfl))) (fun _ _ _ _ _ => pts_nil) (fun _ _ _ _ _ => (pe_g c_is_number.quiet hr (by decide) passL rfl (pa_cons (pv 2) (pa_cons pe_int pa_nil))))) pa_nil)))) (pss_one (ps_ret pe_bl)) pss_nil) (pss_one (ps_ret (pe_callB (cr_all rfl) rfl Fc.f_all (by rfl) (pa_cons (pe_lc (own := [("thing", 3), ("place", 2)]) rfl sc_are_places.nd (pi_zipM rfl Fc.f_zip (pa_cons (pv 0) (pa_cons (pv 1) pa_nil))) (blkOk_by (N := ["things", "places", "place", "thing"]) (sc := defScope s_are_places) (own := [("thing", 3), ("place", 2)]) (by decide +kernel)) (fun _ _ _ _ _ => (pg_tup rfl (pgs_cons (pg_name (i := 3) sc_are_places.nd rfl (.inl rfl)) (pgs_cons (pg_name (i := 2) sc_are_places.nd rfl (.inl rfl)) pgs_nil)))) (fun _ _ _ _ _ => pts_nil) (fun _ _ _ _ _ => (pe_cmpR (op_eqU hr.u64) (pe_op op_mod (pv 2) (pe_ix (ix_U hr.u1) (pv 3) pe_int (fun _ _ => rfl))) pe_int (nomark _)))) pa_nil)))))), (tsm_seq (tsm_if (ttm_lift (ttv_or (ttv_not (ttv_B (tev_isi (tev_var (i := 1))))) (ttv_test (tev_op (tev_cb (tav_cons (tev_var (i := 1)) tav_nil) cb_len) (tev_cb (tav_cons (tev_var (i := 0)) tav_nil) cb_len) ov_ne)))) (tsm_ret (tem_lift (tev_c fun _ => .bl _))) tsm_next) (tsm_seq (tsm_if (ttm_lift (ttv_not (ttv_B (tev_cb (tav_cons (tev_n (ten_lc (tiv_any (tev_var (i := 1))) tgq_name (by decide) ttv_yes (tev_call (qlen_cons (qlen_cons qlen_nil)) (tav_cons (tev_var (i := 2)) (tav_cons (tev_c fun _ => .int _) tav_nil))))) tav_nil) cb_all)))) (tsm_ret (tem_lift (tev_c fun _ => .bl _))) tsm_next) (tsm_ret (tem_lift (tev_cb (tav_cons (tev_n (ten_lc (tiv_zip (tav_cons (tev_var (i := 0)) (tav_cons (tev_var (i := 1)) tav_nil))) (tgq_tup (tgsq_cons tgq_name (tgsq_cons tgq_name tgsq_nil))) (by decide) ttv_yes (tev_op (tev_op (tev_var (i := 2)) (tev_op (tev_var (i := 3)) (tev_c fun _ => .int _) ov_ix) ov_mod) (tev_c fun _ => .int _) ov_eq))) tav_nil) cb_all))))), by decide⟩
abbrev s_first_over : Stmt := topS 13
theorem sc_first_over : FnScope ["things", "pairs", "places", "t", "u"] ["things", "pairs", "places"] (defScope s_first_over) := ⟨rfl, rfl, rfl, by decide +kernel, rfl, by decide +kernel, by decide +kernel⟩
noncomputable def m_first_over : MS := (sSeq (sFor (iLift (qIfA (qVar 1))) (fTup 2 (fCons (fName 3) (fCons (fName 4) fNil))) (sIf (bLift (qB (qCall (qOf f_lie_over) (qCons (qOp oIx (qVar 0) (qVar 3)) (qCons (qOp oIx (qVar 2) (qVar 3)) (qCons (qOp oIx (qVar 0) (qVar 4)) (qCons (qOp oIx (qVar 2) (qVar 4)) qNil))))))) (sRet (mLift (qTup (qCons (qVar 3) (qCons (qVar 4) qNil))))) sNext)) (sRet (mLift (qC (.none)))))
noncomputable def f_first_over : List O → FR := defN 2 [false, false, false] m_first_over
theorem ok_first_over {f : Addr} {fd : FuncData} (Fc : Fct K cl mg) (F : FunD K "first_over" "first_over" (defArgs s_first_over) (defBody s_first_over) (defScope s_first_over) [] [] f fd) (g : mg "first_over" = some (.ref f)) (c_lie_over : CalG P w K mg base 2 "lie_over" (spM ⟨K, cl⟩ 4 f_lie_over)) : CalG P w K mg base 3 "first_over" (spM ⟨K, cl⟩ 3 f_first_over) := by
  refine ⟨f, fd, ["things", "pairs", "places"], ?_, g, F.kp, F.bindsN fun _ _ _ _ _ _ us hl => match us, hl with | [_, _, _], _ => rfl⟩
  refine def_okN (io := [false, false, false]) (more := 2) (m := m_first_over) F sc_first_over rfl rfl ?_
  intro cdv A outer s H E hr
  exact ⟨_, _, (pss_cons (ps_for PassesOwn.never rfl (pi_any (pv 1)) (pg_tup rfl (pgs_cons (pg_name (i := 3) sc_first_over.nd rfl (.inl rfl)) (pgs_cons (pg_name (i := 4) sc_first_over.nd rfl (.inl rfl)) pgs_nil))) (pss_one (ps_if (pt_val (pe_g c_lie_over.quiet hr (by decide) passL rfl (pa_cons (pe_ix (ix_U hr.u1) (pv 0) (pv 3) (fun _ _ => rfl)) (pa_cons (pe_ix (ix_U hr.u1) (pv 2) (pv 3) (fun _ _ => rfl)) (pa_cons (pe_ix (ix_U hr.u1) (pv 0) (pv 4) (fun _ _ => rfl)) (pa_cons (pe_ix (ix_U hr.u1) (pv 2) (pv 4) (fun _ _ => rfl)) pa_nil)))))) (pss_one (ps_ret (pe_tup (pa_cons (pv 3) (pa_cons (pv 4) pa_nil))))) pss_nil))) (pss_one (ps_ret pe_non))), (tsm_seq (tsm_for (tim_lift (tif_any (tev_var (i := 1)))) (tgq_tup (tgsq_cons tgq_name (tgsq_cons tgq_name tgsq_nil))) (tsm_if (ttm_lift (ttv_B (tev_call (qlen_cons (qlen_cons (qlen_cons (qlen_cons qlen_nil)))) (tav_cons (tev_op (tev_var (i := 0)) (tev_var (i := 3)) ov_ix) (tav_cons (tev_op (tev_var (i := 2)) (tev_var (i := 3)) ov_ix) (tav_cons (tev_op (tev_var (i := 0)) (tev_var (i := 4)) ov_ix) (tav_cons (tev_op (tev_var (i := 2)) (tev_var (i := 4)) ov_ix) tav_nil))))))) (tsm_ret (tem_lift (tev_tup (tav_cons (tev_var (i := 3)) (tav_cons (tev_var (i := 4)) tav_nil))))) tsm_next)) (tsm_ret (tem_lift (tev_c fun _ => .non)))), by decide⟩
abbrev s_is_placing : Stmt := topS 14
theorem sc_is_placing : FnScope ["things", "pairs", "places"] ["things", "pairs", "places"] (defScope s_is_placing) := ⟨rfl, rfl, rfl, by decide +kernel, rfl, by decide +kernel, by decide +kernel⟩
noncomputable def m_is_placing : MS := (sRet (mLift (qAndV (qCall (qOf f_are_places) (qCons (qVar 0) (qCons (qVar 2) qNil))) (qOp oIsN (qCall (qOf f_first_over) (qCons (qVar 0) (qCons (qVar 1) (qCons (qVar 2) qNil)))) (qC (.none))))))
noncomputable def f_is_placing : List O → FR := defN 0 [false, false, false] m_is_placing
theorem ok_is_placing {f : Addr} {fd : FuncData} (Fc : Fct K cl mg) (F : FunD K "is_placing" "is_placing" (defArgs s_is_placing) (defBody s_is_placing) (defScope s_is_placing) [] [] f fd) (g : mg "is_placing" = some (.ref f)) (c_are_places : CalG P w K mg base 2 "are_places" (spM ⟨K, cl⟩ 2 f_are_places)) (c_first_over : CalG P w K mg base 3 "first_over" (spM ⟨K, cl⟩ 3 f_first_over)) : CalG P w K mg base 4 "is_placing" (spM ⟨K, cl⟩ 3 f_is_placing) := by
  refine ⟨f, fd, ["things", "pairs", "places"], ?_, g, F.kp, F.bindsN fun _ _ _ _ _ _ us hl => match us, hl with | [_, _, _], _ => rfl⟩
  refine def_okN (io := [false, false, false]) (more := 0) (m := m_is_placing) F sc_is_placing rfl rfl ?_
  intro cdv A outer s H E hr
  exact ⟨_, _, (pss_one (ps_ret (pe_and (pe_g c_are_places.quiet hr (by decide) passL rfl (pa_cons (pv 0) (pa_cons (pv 2) pa_nil))) (pe_one (pe_cmpR op_isN (pe_g c_first_over.quiet hr (by decide) passL rfl (pa_cons (pv 0) (pa_cons (pv 1) (pa_cons (pv 2) pa_nil)))) pe_non (nomark _)))))), (tsm_ret (tem_lift (tev_andV (tev_call (qlen_cons (qlen_cons qlen_nil)) (tav_cons (tev_var (i := 0)) (tav_cons (tev_var (i := 2)) tav_nil))) (tev_op (tev_call (qlen_cons (qlen_cons (qlen_cons qlen_nil))) (tav_cons (tev_var (i := 0)) (tav_cons (tev_var (i := 1)) (tav_cons (tev_var (i := 2)) tav_nil)))) (tev_c fun _ => .non) ov_isN)))), by decide⟩
abbrev s_height : Stmt := topS 8
theorem sc_height : FnScope ["things", "places", "thing", "place"] ["things", "places"] (defScope s_height) := ⟨rfl, rfl, rfl, by decide +kernel, rfl, by decide +kernel, by decide +kernel⟩
noncomputable def m_height : MS := (sRet (mLift (qCbK oMaxD (qCons (qFz (qLc (qZipV (qCons (qVar 0) (qCons (qVar 1) qNil))) (fTup 2 (fCons (fName 2) (fCons (fName 3) fNil))) qYes (qCall (qOf f_end_of) (qCons (qVar 2) (qCons (qVar 3) qNil))) [2, 3])) qNil) (qCons (qC (.int 0)) qNil))))
noncomputable def f_height : List O → FR := defN 2 [false, false] m_height
theorem ok_height {f : Addr} {fd : FuncData} (Fc : Fct K cl mg) (F : FunD K "height" "height" (defArgs s_height) (defBody s_height) (defScope s_height) [] [] f fd) (g : mg "height" = some (.ref f)) (c_end_of : CalG P w K mg base 1 "end_of" (spM ⟨K, cl⟩ 2 f_end_of)) : CalG P w K mg base 2 "height" (spM ⟨K, cl⟩ 2 f_height) := by
  refine ⟨f, fd, ["things", "places"], ?_, g, F.kp, F.bindsN fun _ _ _ _ _ _ us hl => match us, hl with | [_, _], _ => rfl⟩
  refine def_okN (io := [false, false]) (more := 2) (m := m_height) F sc_height rfl rfl ?_
  intro cdv A outer s H E hr
  exact ⟨_, _, (pss_one (ps_ret (pe_callBK (cr_maxD rfl hr.u1) rfl Fc.f_max (by rfl) (pa_cons (pe_lc (own := [("thing", 2), ("place", 3)]) rfl sc_height.nd (pi_zipM rfl Fc.f_zip (pa_cons (pv 0) (pa_cons (pv 1) pa_nil))) (blkOk_by (N := ["things", "places", "thing", "place"]) (sc := defScope s_height) (own := [("thing", 2), ("place", 3)]) (by decide +kernel)) (fun _ _ _ _ _ => (pg_tup rfl (pgs_cons (pg_name (i := 2) sc_height.nd rfl (.inl rfl)) (pgs_cons (pg_name (i := 3) sc_height.nd rfl (.inl rfl)) pgs_nil)))) (fun _ _ _ _ _ => pts_nil) (fun _ _ _ _ _ => (pe_g c_end_of.quiet hr (by decide) passL rfl (pa_cons (pv 2) (pa_cons (pv 3) pa_nil))))) pa_nil) (pk_cons pe_int pk_nil)))), (tsm_ret (tem_lift (tev_maxD (tav_cons (tev_n (ten_lc (tiv_zip (tav_cons (tev_var (i := 0)) (tav_cons (tev_var (i := 1)) tav_nil))) (tgq_tup (tgsq_cons tgq_name (tgsq_cons tgq_name tgsq_nil))) (by decide) ttv_yes (tev_call (qlen_cons (qlen_cons qlen_nil)) (tav_cons (tev_var (i := 2)) (tav_cons (tev_var (i := 3)) tav_nil))))) tav_nil) (tav_cons (tev_c fun _ => .int _) tav_nil)))), by decide⟩
abbrev s_is_least : Stmt := topS 19
theorem sc_is_least : FnScope ["things", "pairs", "places"] ["things", "pairs", "places"] (defScope s_is_least) := ⟨rfl, rfl, rfl, by decide +kernel, rfl, by decide +kernel, by decide +kernel⟩
noncomputable def m_is_least : MS := (sRet (mLift (qAndV (qCall (qOf f_is_placing) (qCons (qVar 0) (qCons (qVar 1) (qCons (qVar 2) qNil)))) (qOp oEq (qCall (qOf f_height) (qCons (qVar 0) (qCons (qVar 2) qNil))) (qOp oIx (qCall (qOf f_least) (qCons (qVar 0) (qCons (qVar 1) qNil))) (qC (.int 0)))))))
noncomputable def f_is_least : List O → FR := defN 0 [false, false, false] m_is_least
theorem ok_is_least {f : Addr} {fd : FuncData} (Fc : Fct K cl mg) (F : FunD K "is_least" "is_least" (defArgs s_is_least) (defBody s_is_least) (defScope s_is_least) [] [] f fd) (g : mg "is_least" = some (.ref f)) (c_is_placing : CalG P w K mg base 4 "is_placing" (spM ⟨K, cl⟩ 3 f_is_placing)) (c_height : CalG P w K mg base 2 "height" (spM ⟨K, cl⟩ 2 f_height)) (c_least : CalG P w K mg base 49 "least" (spM ⟨K, cl⟩ 2 f_least)) : CalG P w K mg base 50 "is_least" (spM ⟨K, cl⟩ 3 f_is_least) := by
  refine ⟨f, fd, ["things", "pairs", "places"], ?_, g, F.kp, F.bindsN fun _ _ _ _ _ _ us hl => match us, hl with | [_, _, _], _ => rfl⟩
  refine def_okN (io := [false, false, false]) (more := 0) (m := m_is_least) F sc_is_least rfl rfl ?_
  intro cdv A outer s H E hr
  exact ⟨_, _, (pss_one (ps_ret (pe_and (pe_g c_is_placing.quiet hr (by decide) passL rfl (pa_cons (pv 0) (pa_cons (pv 1) (pa_cons (pv 2) pa_nil)))) (pe_one (pe_cmpR (op_eqU hr.u64) (pe_g c_height.quiet hr (by decide) passL rfl (pa_cons (pv 0) (pa_cons (pv 2) pa_nil))) (pe_ix (ix_U hr.u1) (pe_g c_least.quiet hr (by decide) passL rfl (pa_cons (pv 0) (pa_cons (pv 1) pa_nil))) pe_int (fun _ _ => rfl)) (nomark _)))))), (tsm_ret (tem_lift (tev_andV (tev_call (qlen_cons (qlen_cons (qlen_cons qlen_nil))) (tav_cons (tev_var (i := 0)) (tav_cons (tev_var (i := 1)) (tav_cons (tev_var (i := 2)) tav_nil)))) (tev_op (tev_call (qlen_cons (qlen_cons qlen_nil)) (tav_cons (tev_var (i := 0)) (tav_cons (tev_var (i := 2)) tav_nil))) (tev_op (tev_call (qlen_cons (qlen_cons qlen_nil)) (tav_cons (tev_var (i := 0)) (tav_cons (tev_var (i := 1)) tav_nil))) (tev_c fun _ => .int _) ov_ix) ov_eq)))), by decide⟩
abbrev s__law_places : Stmt := topS 28
theorem sc__law_places : FnScope ["_law_things", "_law_thing", "_law_one", "_law_part"] ["_law_things", "_law_thing"] (defScope s__law_places) := ⟨rfl, rfl, rfl, by decide +kernel, rfl, by decide +kernel, by decide +kernel⟩
noncomputable def m__law_places : MS := (sSeq (sIf (bLift (qOr (qNot (qB (qIsi "list" (qVar 1)))) (qB (qOp oNe (qCb oLen (qCons (qVar 1) qNil)) (qCb oLen (qCons (qVar 0) qNil)))))) (sRet (mLift (qC (.bool false)))) sNext) (sSeq (sFor (iLift (qZipF (qCons (qVar 1) (qCons (qVar 0) qNil)))) (fTup 2 (fCons (fName 2) (fCons (fName 3) fNil))) (sSeq (sIf (bLift (qOr (qNot (qB (qIsi "int" (qVar 2)))) (qB (qIsi "bool" (qVar 2))))) (sRet (mLift (qC (.bool false)))) sNext) (sIf (bLift (qOr (qB (qOp oLt (qVar 2) (qC (.int 0)))) (qB (qOp oNe (qOp oMod (qVar 2) (qOp oIx (qVar 3) (qC (.int 1)))) (qC (.int 0)))))) (sRet (mLift (qC (.bool false)))) sNext))) (sRet (mLift (qC (.bool true))))))
noncomputable def f__law_places : List O → FR := defN 2 [false, false] m__law_places
theorem ok__law_places {f : Addr} {fd : FuncData} (Fc : Fct K cl mg) (F : FunD K "_law_places" "_law_places" (defArgs s__law_places) (defBody s__law_places) (defScope s__law_places) [] [] f fd) (g : mg "_law_places" = some (.ref f)) : CalG P w K mg base 1 "_law_places" (spM ⟨K, cl⟩ 2 f__law_places) := by
  refine ⟨f, fd, ["_law_things", "_law_thing"], ?_, g, F.kp, F.bindsN fun _ _ _ _ _ _ us hl => match us, hl with | [_, _], _ => rfl⟩
  refine def_okN (io := [false, false]) (more := 2) (m := m__law_places) F sc__law_places rfl rfl ?_
  intro cdv A outer s H E hr
  exact ⟨_, _, (pss_cons (ps_if (PW.pt (pw_or (pt_not (pt_val (pe_callB call_isi1 rfl Fc.f_isinstance (by rfl) (pa_cons (pv 1) (pa_cons (pe_bltn (v := .ty "list") (u := .type "list") rfl Fc.f_list (by rfl) rfl) pa_nil))))) (pw_or1 (pt_cmpR (op_neU hr.u64) (pe_callB call_lenU rfl Fc.f_len (by rfl) (pa_cons (pv 1) pa_nil)) (pe_callB call_lenU rfl Fc.f_len (by rfl) (pa_cons (pv 0) pa_nil)) (nomark _))))) (pss_one (ps_ret pe_bl)) pss_nil) (pss_cons (ps_for PassesOwn.never rfl (pi_zipM rfl Fc.f_zip (pa_cons (pv 1) (pa_cons (pv 0) pa_nil))) (pg_tup rfl (pgs_cons (pg_name (i := 2) sc__law_places.nd rfl (.inl rfl)) (pgs_cons (pg_name (i := 3) sc__law_places.nd rfl (.inl rfl)) pgs_nil))) (pss_cons (ps_if (PW.pt (pw_or (pt_not (pt_val (pe_callB call_isi1 rfl Fc.f_isinstance (by rfl) (pa_cons (pv 2) (pa_cons (pe_bltn (v := .ty "int") (u := .type "int") rfl Fc.f_int (by rfl) rfl) pa_nil))))) (pw_or1 (pt_val (pe_callB call_isi1 rfl Fc.f_isinstance (by rfl) (pa_cons (pv 2) (pa_cons (pe_bltn (v := .ty "bool") (u := .type "bool") rfl Fc.f_bool (by rfl) rfl) pa_nil))))))) (pss_one (ps_ret pe_bl)) pss_nil) (pss_one (ps_if (PW.pt (pw_or (pt_cmpR op_lt (pv 2) pe_int (nomark _)) (pw_or1 (pt_cmpR (op_neU hr.u64) (pe_op op_mod (pv 2) (pe_ix (ix_U hr.u1) (pv 3) pe_int (fun _ _ => rfl))) pe_int (nomark _))))) (pss_one (ps_ret pe_bl)) pss_nil)))) (pss_one (ps_ret pe_bl)))), (tsm_seq (tsm_if (ttm_lift (ttv_or (ttv_not (ttv_B (tev_isi (tev_var (i := 1))))) (ttv_test (tev_op (tev_cb (tav_cons (tev_var (i := 1)) tav_nil) cb_len) (tev_cb (tav_cons (tev_var (i := 0)) tav_nil) cb_len) ov_ne)))) (tsm_ret (tem_lift (tev_c fun _ => .bl _))) tsm_next) (tsm_seq (tsm_for (tim_lift (tif_zipM (tav_cons (tev_var (i := 1)) (tav_cons (tev_var (i := 0)) tav_nil)))) (tgq_tup (tgsq_cons tgq_name (tgsq_cons tgq_name tgsq_nil))) (tsm_seq (tsm_if (ttm_lift (ttv_or (ttv_not (ttv_B (tev_isi (tev_var (i := 2))))) (ttv_B (tev_isi (tev_var (i := 2)))))) (tsm_ret (tem_lift (tev_c fun _ => .bl _))) tsm_next) (tsm_if (ttm_lift (ttv_or (ttv_test (tev_op (tev_var (i := 2)) (tev_c fun _ => .int _) ov_lt)) (ttv_test (tev_op (tev_op (tev_var (i := 2)) (tev_op (tev_var (i := 3)) (tev_c fun _ => .int _) ov_ix) ov_mod) (tev_c fun _ => .int _) ov_ne)))) (tsm_ret (tem_lift (tev_c fun _ => .bl _))) tsm_next))) (tsm_ret (tem_lift (tev_c fun _ => .bl _))))), by decide⟩
abbrev s__law_over : Stmt := topS 27
theorem sc__law_over : FnScope ["_law_things", "_law_places_here", "_law_t", "_law_u", "_law_one", "_law_other"] ["_law_things", "_law_places_here", "_law_t", "_law_u"] (defScope s__law_over) := ⟨rfl, rfl, rfl, by decide +kernel, rfl, by decide +kernel, by decide +kernel⟩
noncomputable def m__law_over : MS := (sSeq (sPar 4 5 (mCons (mLift (qOp oIx (qVar 1) (qVar 2))) (mCons (mLift (qOp oIx (qVar 1) (qVar 3))) mNil))) (sRet (mLift (qAndV (qOp oLt (qVar 4) (qOp oAdd (qVar 5) (qOp oIx (qOp oIx (qVar 0) (qVar 3)) (qC (.int 0))))) (qOp oLt (qVar 5) (qOp oAdd (qVar 4) (qOp oIx (qOp oIx (qVar 0) (qVar 2)) (qC (.int 0)))))))))
noncomputable def f__law_over : List O → FR := defN 2 [false, false, false, false] m__law_over
theorem ok__law_over {f : Addr} {fd : FuncData} (Fc : Fct K cl mg) (F : FunD K "_law_over" "_law_over" (defArgs s__law_over) (defBody s__law_over) (defScope s__law_over) [] [] f fd) (g : mg "_law_over" = some (.ref f)) : CalG P w K mg base 1 "_law_over" (spM ⟨K, cl⟩ 4 f__law_over) := by
  refine ⟨f, fd, ["_law_things", "_law_places_here", "_law_t", "_law_u"], ?_, g, F.kp, F.bindsN fun _ _ _ _ _ _ us hl => match us, hl with | [_, _, _, _], _ => rfl⟩
  refine def_okN (io := [false, false, false, false]) (more := 2) (m := m__law_over) F sc__law_over rfl rfl ?_
  intro cdv A outer s H E hr
  exact ⟨_, _, (pss_cons (ps_par (i := 4) (j := 5) rfl sc__law_over.nd rfl rfl (by decide) rfl rfl (pa_cons (pe_ix (ix_U hr.u1) (pv 1) (pv 2) (fun _ _ => rfl)) (pa_cons (pe_ix (ix_U hr.u1) (pv 1) (pv 3) (fun _ _ => rfl)) pa_nil)) rfl) (pss_one (ps_ret (pe_and (pe_cmpR op_lt (pv 4) (pe_op op_addU (pv 5) (pe_ix (ix_U hr.u1) (pe_ix (ix_U hr.u1) (pv 0) (pv 3) (fun _ _ => rfl)) pe_int (fun _ _ => rfl))) (nomark _)) (pe_one (pe_cmpR op_lt (pv 5) (pe_op op_addU (pv 4) (pe_ix (ix_U hr.u1) (pe_ix (ix_U hr.u1) (pv 0) (pv 2) (fun _ _ => rfl)) pe_int (fun _ _ => rfl))) (nomark _))))))), (tsm_seq (tsm_par (tam_val (tem_lift (tev_op (tev_var (i := 1)) (tev_var (i := 2)) ov_ix)) (tam_val (tem_lift (tev_op (tev_var (i := 1)) (tev_var (i := 3)) ov_ix)) tam_nil))) (tsm_ret (tem_lift (tev_andV (tev_op (tev_var (i := 4)) (tev_op (tev_var (i := 5)) (tev_op (tev_op (tev_var (i := 0)) (tev_var (i := 3)) ov_ix) (tev_c fun _ => .int _) ov_ix) ov_add) ov_lt) (tev_op (tev_var (i := 5)) (tev_op (tev_var (i := 4)) (tev_op (tev_op (tev_var (i := 0)) (tev_var (i := 2)) ov_ix) (tev_c fun _ => .int _) ov_ix) ov_add) ov_lt))))), by decide⟩
abbrev s__law_placing : Stmt := topS 29
theorem sc__law_placing : FnScope ["_law_things", "_law_pairs_here", "_law_thing", "_law_t", "_law_u"] ["_law_things", "_law_pairs_here", "_law_thing"] (defScope s__law_placing) := ⟨rfl, rfl, rfl, by decide +kernel, rfl, by decide +kernel, by decide +kernel⟩
noncomputable def m__law_placing : MS := (sSeq (sIf (bLift (qNot (qB (qCall (qOf f__law_places) (qCons (qVar 0) (qCons (qVar 2) qNil)))))) (sRet (mLift (qC (.bool false)))) sNext) (sRet (mLift (qNotV (qCb oAny (qCons (qFz (qLc (qItA (qVar 1)) (fTup 2 (fCons (fName 3) (fCons (fName 4) fNil))) qYes (qCall (qOf f__law_over) (qCons (qVar 0) (qCons (qVar 2) (qCons (qVar 3) (qCons (qVar 4) qNil))))) [3, 4])) qNil))))))
noncomputable def f__law_placing : List O → FR := defN 2 [false, false, false] m__law_placing
theorem ok__law_placing {f : Addr} {fd : FuncData} (Fc : Fct K cl mg) (F : FunD K "_law_placing" "_law_placing" (defArgs s__law_placing) (defBody s__law_placing) (defScope s__law_placing) [] [] f fd) (g : mg "_law_placing" = some (.ref f)) (c__law_places : CalG P w K mg base 1 "_law_places" (spM ⟨K, cl⟩ 2 f__law_places)) (c__law_over : CalG P w K mg base 1 "_law_over" (spM ⟨K, cl⟩ 4 f__law_over)) : CalG P w K mg base 2 "_law_placing" (spM ⟨K, cl⟩ 3 f__law_placing) := by
  refine ⟨f, fd, ["_law_things", "_law_pairs_here", "_law_thing"], ?_, g, F.kp, F.bindsN fun _ _ _ _ _ _ us hl => match us, hl with | [_, _, _], _ => rfl⟩
  refine def_okN (io := [false, false, false]) (more := 2) (m := m__law_placing) F sc__law_placing rfl rfl ?_
  intro cdv A outer s H E hr
  exact ⟨_, _, (pss_cons (ps_if (pt_not (pt_val (pe_g c__law_places.quiet hr (by decide) passL rfl (pa_cons (pv 0) (pa_cons (pv 2) pa_nil))))) (pss_one (ps_ret pe_bl)) pss_nil) (pss_one (ps_ret (pe_not (pe_callB (cr_any rfl) rfl Fc.f_any (by rfl) (pa_cons (pe_lc (own := [("_law_t", 3), ("_law_u", 4)]) rfl sc__law_placing.nd (pi_any (pv 1)) (blkOk_by (N := ["_law_things", "_law_pairs_here", "_law_thing", "_law_t", "_law_u"]) (sc := defScope s__law_placing) (own := [("_law_t", 3), ("_law_u", 4)]) (by decide +kernel)) (fun _ _ _ _ _ => (pg_tup rfl (pgs_cons (pg_name (i := 3) sc__law_placing.nd rfl (.inl rfl)) (pgs_cons (pg_name (i := 4) sc__law_placing.nd rfl (.inl rfl)) pgs_nil)))) (fun _ _ _ _ _ => pts_nil) (fun _ _ _ _ _ => (pe_g c__law_over.quiet hr (by decide) passL rfl (pa_cons (pv 0) (pa_cons (pv 2) (pa_cons (pv 3) (pa_cons (pv 4) pa_nil))))))) pa_nil)))))), (tsm_seq (tsm_if (ttm_lift (ttv_not (ttv_B (tev_call (qlen_cons (qlen_cons qlen_nil)) (tav_cons (tev_var (i := 0)) (tav_cons (tev_var (i := 2)) tav_nil)))))) (tsm_ret (tem_lift (tev_c fun _ => .bl _))) tsm_next) (tsm_ret (tem_lift (tev_notV (tev_cb (tav_cons (tev_n (ten_lc (tiv_any (tev_var (i := 1))) (tgq_tup (tgsq_cons tgq_name (tgsq_cons tgq_name tgsq_nil))) (by decide) ttv_yes (tev_call (qlen_cons (qlen_cons (qlen_cons (qlen_cons qlen_nil)))) (tav_cons (tev_var (i := 0)) (tav_cons (tev_var (i := 2)) (tav_cons (tev_var (i := 3)) (tav_cons (tev_var (i := 4)) tav_nil))))))) tav_nil) cb_any))))), by decide⟩
abbrev s_law : Stmt := topS 36
theorem sc_law : FnScope ["_law_script", "_law_k", "_law_tape_here", "_law_many", "_law_things", "_law_pairs_here", "_law_lowest_here", "_law_places_here", "_law_kept", "_law_found", "_law_due"] ["_law_script"] (defScope s_law) := ⟨rfl, rfl, rfl, by decide +kernel, rfl, by decide +kernel, by decide +kernel⟩
noncomputable def m_law_1 : MS := (sSet 2 (mCall f__law_tape [none, none] (mCons (mLift (qVar 0)) (mCons (mLift (qVar 1)) mNil))))
noncomputable def m_law_2 : MS := (sSet 3 (mIf (bAnd (bLift (qB (qOp oEq (qVar 1) (qC (.int 0))))) (bTest (mOp oEq (frzM (mCall f__law_draw [some 2, none] (mRef 2 (mCons (mLift (qC (.int 8))) mNil)))) (mLift (qC (.int 0)))))) (mLift (qC (.int 6))) (frzM (mCall f__law_draw [some 2, none] (mRef 2 (mCons (mLift (qC (.int 6))) mNil))))))
noncomputable def m_law_3 : MS := (sPar 4 5 (mCons (frzM (mCall f__law_few [some 2, none] (mRef 2 (mCons (mLift (qVar 3)) mNil)))) (mCons (frzM (mCall f__law_pairs [some 2, none] (mRef 2 (mCons (mLift (qVar 3)) mNil)))) mNil)))
noncomputable def m_law_4 : MS := (sSet 6 (mLift (qCall (qOf f__law_least) (qCons (qVar 4) (qCons (qVar 5) qNil)))))
noncomputable def m_law_5 : MS := (sSet 8 (mLift (qCb oStr (qCons (qFz (qLst (qCons (qVar 4) (qCons (qVar 5) (qCons (qVar 7) qNil))))) qNil))))
noncomputable def m_law_6 : MS := (sSet 9 (mLift (qCall (qOf f_is_least) (qCons (qVar 4) (qCons (qVar 5) (qCons (qVar 7) qNil))))))
noncomputable def m_law_7 : MS := (sSet 10 (mLift (qCall (qOf f__law_placing) (qCons (qVar 4) (qCons (qVar 5) (qCons (qVar 7) qNil))))))
noncomputable def m_law_8 : MS := (sSet 10 (mLift (qAndV (qVar 10) (qOp oEq (qCall (qOf f__law_height) (qCons (qVar 4) (qCons (qVar 7) qNil))) (qVar 6)))))
noncomputable def m_law_9 : MS := (sIf (bLift (qOr (qNot (qB (qIsi "bool" (qVar 9)))) (qB (qOp oNe (qVar 9) (qVar 10))))) (sRet (mLift (qC (.bool false)))) sNext)
noncomputable def m_law_10 : MS := (sIf (bLift (qB (qOp oNe (qCb oStr (qCons (qFz (qLst (qCons (qVar 4) (qCons (qVar 5) (qCons (qVar 7) qNil))))) qNil)) (qVar 8)))) (sRet (mLift (qC (.bool false)))) sNext)
noncomputable def m_law_11 : MS := (sFor (iAnyM (frzM (mCall f__law_some [some 2, none, none] (mRef 2 (mCons (mLift (qVar 4)) (mCons (mLift (qVar 5)) mNil)))))) (fName 7) (sSeq m_law_5 (sSeq m_law_6 (sSeq m_law_7 (sSeq m_law_8 (sSeq m_law_9 m_law_10))))))
noncomputable def m_law_12 : MS := (sFor (iLift (qRng1 (qCons (qOp oAdd (qC (.int 1)) (qCb oMin2 (qCons (qC (.int 3)) (qCons (qCb oLen (qCons (qVar 0) qNil)) qNil)))) qNil))) (fName 1) (sSeq m_law_1 (sSeq m_law_2 (sSeq m_law_3 (sSeq m_law_4 m_law_11)))))
noncomputable def m_law : MS := (sSeq m_law_12 (sRet (mLift (qC (.bool true)))))
noncomputable def f_law : List O → FR := defN 10 [false] m_law
theorem ok_law {f : Addr} {fd : FuncData} (Fc : Fct K cl mg) (F : FunD K "law" "law" (defArgs s_law) (defBody s_law) (defScope s_law) [] [] f fd) (c__law_tape : CalG P w K mg base 1 "_law_tape" (spM ⟨K, cl⟩ 2 f__law_tape)) (c__law_least : CalG P w K mg base 46 "_law_least" (spM ⟨K, cl⟩ 2 f__law_least)) (c__law_some : CalG P w K mg base 50 "_law_some" (spM ⟨K, cl⟩ 3 f__law_some)) (c__law_draw : CalG P w K mg base 1 "_law_draw" (spM ⟨K, cl⟩ 2 f__law_draw)) (c__law_few : CalG P w K mg base 2 "_law_few" (spM ⟨K, cl⟩ 2 f__law_few)) (c__law_pairs : CalG P w K mg base 2 "_law_pairs" (spM ⟨K, cl⟩ 2 f__law_pairs)) (c_is_least : CalG P w K mg base 50 "is_least" (spM ⟨K, cl⟩ 3 f_is_least)) (c__law_placing : CalG P w K mg base 2 "_law_placing" (spM ⟨K, cl⟩ 3 f__law_placing)) (c__law_height : CalG P w K mg base 1 "_law_height" (spM ⟨K, cl⟩ 2 f__law_height)) : FnG P w K mg base (CXg P w) 51 f fd ["_law_script"] (spM ⟨K, cl⟩ 1 f_law) := by
  refine def_okN (io := [false]) (more := 10) (m := m_law) F sc_law rfl rfl ?_
  intro cdv A outer s H E hr
  exact ⟨_, _, (pss_cons (ps_for PassesOwn.never rfl (pi_range1 rfl Fc.f_range (pa_cons (pe_op op_addU pe_int (pe_callB (call_min2 rfl) rfl Fc.f_min (by rfl) (pa_cons pe_int (pa_cons (pe_callB call_lenU rfl Fc.f_len (by rfl) (pa_cons (pv 0) pa_nil)) pa_nil)))) pa_nil)) (pg_name (i := 1) sc_law.nd rfl (.inl rfl)) (pss_cons (ps_set (i := 2) sc_law.nd rfl (.inl rfl) (pe_g c__law_tape hr (by decide) passL rfl (pa_cons (pv 0) (pa_cons (pv 1) pa_nil)))) (pss_cons (ps_set (i := 3) sc_law.nd rfl (.inl rfl) (pe_ifExp (PW.pt (pw_and (pt_cmpR (op_eqU hr.u64) (pv 1) pe_int (nomark _)) (pw_and1 (pt_cmpR (op_eqU hr.u64) (pe_g c__law_draw hr (by decide) passL rfl (pa_cons (pv 2) (pa_cons pe_int pa_nil))) pe_int (nomark _))))) pe_int (pe_g c__law_draw hr (by decide) passL rfl (pa_cons (pv 2) (pa_cons pe_int pa_nil))))) (pss_cons (ps_par (i := 4) (j := 5) rfl sc_law.nd rfl rfl (by decide) rfl rfl (pa_cons (pe_g c__law_few hr (by decide) passL rfl (pa_cons (pv 2) (pa_cons (pv 3) pa_nil))) (pa_cons (pe_g c__law_pairs hr (by decide) passL rfl (pa_cons (pv 2) (pa_cons (pv 3) pa_nil))) pa_nil)) rfl) (pss_cons (ps_set (i := 6) sc_law.nd rfl (.inl rfl) (pe_g c__law_least.quiet hr (by decide) passL rfl (pa_cons (pv 4) (pa_cons (pv 5) pa_nil)))) (pss_one (ps_for PassesOwn.never rfl (pi_any (pe_g c__law_some hr (by decide) passL rfl (pa_cons (pv 2) (pa_cons (pv 4) (pa_cons (pv 5) pa_nil))))) (pg_name (i := 7) sc_law.nd rfl (.inl rfl)) (pss_cons (ps_set (i := 8) sc_law.nd rfl (.inl rfl) (pe_callTy (call_strU hr.gd hr.u68) rfl Fc.f_str (by rfl) (pa_cons (pe_lst (pa_cons (pv 4) (pa_cons (pv 5) (pa_cons (pv 7) pa_nil)))) pa_nil))) (pss_cons (ps_set (i := 9) sc_law.nd rfl (.inl rfl) (pe_g c_is_least.quiet hr (by decide) passL rfl (pa_cons (pv 4) (pa_cons (pv 5) (pa_cons (pv 7) pa_nil))))) (pss_cons (ps_set (i := 10) sc_law.nd rfl (.inl rfl) (pe_g c__law_placing.quiet hr (by decide) passL rfl (pa_cons (pv 4) (pa_cons (pv 5) (pa_cons (pv 7) pa_nil))))) (pss_cons (ps_set (i := 10) sc_law.nd rfl (.inl rfl) (pe_and (pv 10) (pe_one (pe_cmpR (op_eqU hr.u64) (pe_g c__law_height.quiet hr (by decide) passL rfl (pa_cons (pv 4) (pa_cons (pv 7) pa_nil))) (pv 6) (nomark _))))) (pss_cons (ps_if (PW.pt (pw_or (pt_not (pt_val (pe_callB call_isi1 rfl Fc.f_isinstance (by rfl) (pa_cons (pv 9) (pa_cons (pe_bltn (v := .ty "bool") (u := .type "bool") rfl Fc.f_bool (by rfl) rfl) pa_nil))))) (pw_or1 (pt_cmpR (op_neU hr.u64) (pv 9) (pv 10) (nomark _))))) (pss_one (ps_ret pe_bl)) pss_nil) (pss_one (ps_if (pt_cmpR (op_neU hr.u64) (pe_callTy (call_strU hr.gd hr.u68) rfl Fc.f_str (by rfl) (pa_cons (pe_lst (pa_cons (pv 4) (pa_cons (pv 5) (pa_cons (pv 7) pa_nil)))) pa_nil)) (pv 8) (nomark _)) (pss_one (ps_ret pe_bl)) pss_nil)))))))))))))) (pss_one (ps_ret pe_bl))), (tsm_seq (tsm_for (tim_lift (tif_rng1 (tav_cons (tev_op (tev_c fun _ => .int _) (tev_cb (tav_cons (tev_c fun _ => .int _) (tav_cons (tev_cb (tav_cons (tev_var (i := 0)) tav_nil) cb_len) tav_nil)) cb_min2) ov_add) tav_nil))) tgq_name (tsm_seq (tsm_set (tem_call rfl (tam_val (tem_lift (tev_var (i := 0))) (tam_val (tem_lift (tev_var (i := 1))) tam_nil)))) (tsm_seq (tsm_set (tem_if (ttm_and (ttm_lift (ttv_test (tev_op (tev_var (i := 1)) (tev_c fun _ => .int _) ov_eq))) (ttm_test (tem_op (tem_frz (tem_call rfl (tam_ref (tam_val (tem_lift (tev_c fun _ => .int _)) tam_nil)))) (tem_lift (tev_c fun _ => .int _)) ov_eq))) (tem_lift (tev_c fun _ => .int _)) (tem_frz (tem_call rfl (tam_ref (tam_val (tem_lift (tev_c fun _ => .int _)) tam_nil)))))) (tsm_seq (tsm_par (tam_val (tem_frz (tem_call rfl (tam_ref (tam_val (tem_lift (tev_var (i := 3))) tam_nil)))) (tam_val (tem_frz (tem_call rfl (tam_ref (tam_val (tem_lift (tev_var (i := 3))) tam_nil)))) tam_nil))) (tsm_seq (tsm_set (tem_lift (tev_call (qlen_cons (qlen_cons qlen_nil)) (tav_cons (tev_var (i := 4)) (tav_cons (tev_var (i := 5)) tav_nil))))) (tsm_for (tim_any (tem_frz (tem_call rfl (tam_ref (tam_val (tem_lift (tev_var (i := 4))) (tam_val (tem_lift (tev_var (i := 5))) tam_nil)))))) tgq_name (tsm_seq (tsm_set (tem_lift (tev_cb (tav_cons (tev_n (ten_lst (tav_cons (tev_var (i := 4)) (tav_cons (tev_var (i := 5)) (tav_cons (tev_var (i := 7)) tav_nil))))) tav_nil) cb_str))) (tsm_seq (tsm_set (tem_lift (tev_call (qlen_cons (qlen_cons (qlen_cons qlen_nil))) (tav_cons (tev_var (i := 4)) (tav_cons (tev_var (i := 5)) (tav_cons (tev_var (i := 7)) tav_nil)))))) (tsm_seq (tsm_set (tem_lift (tev_call (qlen_cons (qlen_cons (qlen_cons qlen_nil))) (tav_cons (tev_var (i := 4)) (tav_cons (tev_var (i := 5)) (tav_cons (tev_var (i := 7)) tav_nil)))))) (tsm_seq (tsm_set (tem_lift (tev_andV (tev_var (i := 10)) (tev_op (tev_call (qlen_cons (qlen_cons qlen_nil)) (tav_cons (tev_var (i := 4)) (tav_cons (tev_var (i := 7)) tav_nil))) (tev_var (i := 6)) ov_eq)))) (tsm_seq (tsm_if (ttm_lift (ttv_or (ttv_not (ttv_B (tev_isi (tev_var (i := 9))))) (ttv_test (tev_op (tev_var (i := 9)) (tev_var (i := 10)) ov_ne)))) (tsm_ret (tem_lift (tev_c fun _ => .bl _))) tsm_next) (tsm_if (ttm_lift (ttv_test (tev_op (tev_cb (tav_cons (tev_n (ten_lst (tav_cons (tev_var (i := 4)) (tav_cons (tev_var (i := 5)) (tav_cons (tev_var (i := 7)) tav_nil))))) tav_nil) cb_str) (tev_var (i := 8)) ov_ne))) (tsm_ret (tem_lift (tev_c fun _ => .bl _))) tsm_next)))))))))))) (tsm_ret (tem_lift (tev_c fun _ => .bl _)))), by decide⟩
end
def hcl (K : Frag) : Nat → Addr
  | 0 => He.ga K "Search"
  | _ => 0
def d__law_tape : He.DefD := ⟨("_law_tape", none), "_law_tape", "_law_tape", defArgs s__law_tape, defBody s__law_tape, defScope s__law_tape, [], []⟩
def d__law_orders : He.DefD := ⟨("_law_orders", none), "_law_orders", "_law_orders", defArgs s__law_orders, defBody s__law_orders, defScope s__law_orders, [], []⟩
def d__law_height : He.DefD := ⟨("_law_height", none), "_law_height", "_law_height", defArgs s__law_height, defBody s__law_height, defScope s__law_height, [], []⟩
def d__law_up : He.DefD := ⟨("_law_up", none), "_law_up", "_law_up", defArgs s__law_up, defBody s__law_up, defScope s__law_up, [], []⟩
def d__law_lowest : He.DefD := ⟨("_law_lowest", none), "_law_lowest", "_law_lowest", defArgs s__law_lowest, defBody s__law_lowest, defScope s__law_lowest, [], []⟩
def d__law_put : He.DefD := ⟨("_law_put", none), "_law_put", "_law_put", defArgs s__law_put, defBody s__law_put, defScope s__law_put, [], []⟩
def d__law_least : He.DefD := ⟨("_law_least", none), "_law_least", "_law_least", defArgs s__law_least, defBody s__law_least, defScope s__law_least, [], []⟩
def d_Search_crowd : He.DefD := ⟨("Search", some "crowd"), "crowd", "Search.crowd", defArgs s_Search_crowd, defBody s_Search_crowd, defScope s_Search_crowd, [], []⟩
def d_Search___init__ : He.DefD := ⟨("Search", some "__init__"), "__init__", "Search.__init__", defArgs s_Search___init__, defBody s_Search___init__, defScope s_Search___init__, [], []⟩
def d_end_of : He.DefD := ⟨("end_of", none), "end_of", "end_of", defArgs s_end_of, defBody s_end_of, defScope s_end_of, [], []⟩
def d_lie_over : He.DefD := ⟨("lie_over", none), "lie_over", "lie_over", defArgs s_lie_over, defBody s_lie_over, defScope s_lie_over, [], []⟩
def d_rounded : He.DefD := ⟨("rounded", none), "rounded", "rounded", defArgs s_rounded, defBody s_rounded, defScope s_rounded, [], []⟩
def d_least_place : He.DefD := ⟨("least_place", none), "least_place", "least_place", defArgs s_least_place, defBody s_least_place, defScope s_least_place, [], []⟩
def d_Search_go_on : He.DefD := ⟨("Search", some "go_on"), "go_on", "Search.go_on", defArgs s_Search_go_on, defBody s_Search_go_on, defScope s_Search_go_on, [], []⟩
def d_least : He.DefD := ⟨("least", none), "least", "least", defArgs s_least, defBody s_least, defScope s_least, [], []⟩
def d__law_draw : He.DefD := ⟨("_law_draw", none), "_law_draw", "_law_draw", defArgs s__law_draw, defBody s__law_draw, defScope s__law_draw, [], []⟩
def d__law_mixed : He.DefD := ⟨("_law_mixed", none), "_law_mixed", "_law_mixed", defArgs s__law_mixed, defBody s__law_mixed, defScope s__law_mixed, [], []⟩
def d__law_some : He.DefD := ⟨("_law_some", none), "_law_some", "_law_some", defArgs s__law_some, defBody s__law_some, defScope s__law_some, [], []⟩
def d__law_few : He.DefD := ⟨("_law_few", none), "_law_few", "_law_few", defArgs s__law_few, defBody s__law_few, defScope s__law_few, [], []⟩
def d__law_pairs : He.DefD := ⟨("_law_pairs", none), "_law_pairs", "_law_pairs", defArgs s__law_pairs, defBody s__law_pairs, defScope s__law_pairs, [], []⟩
def d_is_number : He.DefD := ⟨("is_number", none), "is_number", "is_number", defArgs s_is_number, defBody s_is_number, defScope s_is_number, [], []⟩
def d_are_places : He.DefD := ⟨("are_places", none), "are_places", "are_places", defArgs s_are_places, defBody s_are_places, defScope s_are_places, [], []⟩
def d_first_over : He.DefD := ⟨("first_over", none), "first_over", "first_over", defArgs s_first_over, defBody s_first_over, defScope s_first_over, [], []⟩
def d_is_placing : He.DefD := ⟨("is_placing", none), "is_placing", "is_placing", defArgs s_is_placing, defBody s_is_placing, defScope s_is_placing, [], []⟩
def d_height : He.DefD := ⟨("height", none), "height", "height", defArgs s_height, defBody s_height, defScope s_height, [], []⟩
def d_is_least : He.DefD := ⟨("is_least", none), "is_least", "is_least", defArgs s_is_least, defBody s_is_least, defScope s_is_least, [], []⟩
def d__law_places : He.DefD := ⟨("_law_places", none), "_law_places", "_law_places", defArgs s__law_places, defBody s__law_places, defScope s__law_places, [], []⟩
def d__law_over : He.DefD := ⟨("_law_over", none), "_law_over", "_law_over", defArgs s__law_over, defBody s__law_over, defScope s__law_over, [], []⟩
def d__law_placing : He.DefD := ⟨("_law_placing", none), "_law_placing", "_law_placing", defArgs s__law_placing, defBody s__law_placing, defScope s__law_placing, [], []⟩
def d_law : He.DefD := ⟨("law", none), "law", "law", defArgs s_law, defBody s_law, defScope s_law, [], []⟩
def hfn : List He.DefD := ([d__law_tape, d__law_orders, d__law_height, d__law_up, d__law_lowest, d__law_put, d__law_least, d_Search_crowd, d_Search___init__, d_end_of, d_lie_over, d_rounded] : List He.DefD) ++ ([d_least_place, d_Search_go_on, d_least, d__law_draw, d__law_mixed, d__law_some, d__law_few, d__law_pairs, d_is_number, d_are_places, d_first_over, d_is_placing] : List He.DefD) ++ ([d_height, d_is_least, d__law_places, d__law_over, d__law_placing, d_law] : List He.DefD)
def hfa : List He.Fa := ([.glo "_law_tape", .glo "_law_orders", .glo "_law_height", .glo "_law_up", .glo "_law_lowest", .glo "_law_put", .glo "_law_least", .meth "Search" "crowd", .mkr "Search", .glo "end_of", .glo "lie_over", .glo "rounded"] : List He.Fa) ++ ([.glo "least_place", .meth "Search" "go_on", .glo "least", .glo "_law_draw", .glo "_law_mixed", .glo "_law_some", .glo "_law_few", .glo "_law_pairs", .glo "is_number", .glo "are_places", .glo "first_over", .glo "is_placing"] : List He.Fa) ++ ([.glo "height", .glo "is_least", .glo "_law_places", .glo "_law_over", .glo "_law_placing", .glo "law", .free "abs", .free "all", .free "any", .free "bool", .free "dict", .free "enumerate"] : List He.Fa) ++ ([.free "int", .free "isinstance", .free "len", .free "list", .free "max", .free "min", .free "range", .free "sorted", .free "str", .free "sum", .free "tuple", .free "zip"] : List He.Fa) ++ ([.int "MOST" 8, .glo "Search", .cls "Search", .noat "Search" "things", .noat "Search" "mates", .noat "Search" "best", .noat "Search" "best_places", .noat "Search" "floor"] : List He.Fa)
def hloose : List PySem.Str := (["FrameError", "TooMany", "is_number", "rounded", "end_of", "lie_over", "height", "least_place", "are_places", "first_over", "is_placing", "MOST"] : List PySem.Str) ++ (["Search", "least", "is_least", "_law_tape", "_law_draw", "_law_pairs", "_law_mixed", "_law_up", "_law_few", "_law_over", "_law_places", "_law_placing"] : List PySem.Str) ++ (["_law_height", "_law_lowest", "_law_put", "_law_orders", "_law_least", "_law_some"] : List PySem.Str)
abbrev hR : PySem.W.OpenRow := PySem.W.OpenLaw.row PySem.Challenge.rw_frameshare_k29_which_are_least
abbrev hhk : PySem.W.Hook := He.hookD 6 hfa hfn
def hob (s : PySem.W.SharedT) : He.AlD := He.obsDG 6 hfa hfn (HandSHeadRun.getT s)
theorem hob_eq (s : PySem.W.SharedT) : hob s = hhk.obs s.abs := He.obsDG_eq (HandSHeadRun.getT_eq s)
theorem hrun (w : World) : HandSHeadRun.RunEq hR (PySem.W.view hR.prog [36]) hhk hob 2000 hloose w := by
  intro os
  kernel_rfl
theorem hfacts {P : Program} {w : World} {K : Frag} {h : Heap} {mg : Str → Option Value} {f : Addr} (X : K.In h) (G : h.Ns mainGlobals mg) (hf : mg ("law" : Str) = some (.ref f)) (c : He.SaysD hfa hfn K) :
    ∃ fd : FuncData, (∀ (s : Shared) (v : Value), BindsTo s fd ⟨[v], []⟩ [("_law_script", v)]) ∧ ∀ base : Heap, FnG P w K mg base (CXg P w) 51 f fd ["_law_script"] (spM ⟨K, hcl K⟩ 1 f_law) := by
  have Fc : Fct K (hcl K) mg := ⟨He.cls_ok (c.fact 50 (f := .cls "Search") rfl), He.noat_ok (c.fact 51 (f := .noat "Search" "things") rfl), He.noat_ok (c.fact 52 (f := .noat "Search" "mates") rfl), He.noat_ok (c.fact 53 (f := .noat "Search" "best") rfl), He.noat_ok (c.fact 54 (f := .noat "Search" "best_places") rfl), He.noat_ok (c.fact 55 (f := .noat "Search" "floor") rfl), He.free_ok X G (c.fact 30 (f := .free "abs") rfl), He.free_ok X G (c.fact 31 (f := .free "all") rfl), He.free_ok X G (c.fact 32 (f := .free "any") rfl), He.free_ok X G (c.fact 33 (f := .free "bool") rfl), He.free_ok X G (c.fact 34 (f := .free "dict") rfl), He.free_ok X G (c.fact 35 (f := .free "enumerate") rfl), He.free_ok X G (c.fact 36 (f := .free "int") rfl), He.free_ok X G (c.fact 37 (f := .free "isinstance") rfl), He.free_ok X G (c.fact 38 (f := .free "len") rfl), He.free_ok X G (c.fact 39 (f := .free "list") rfl), He.free_ok X G (c.fact 40 (f := .free "max") rfl), He.free_ok X G (c.fact 41 (f := .free "min") rfl), He.free_ok X G (c.fact 42 (f := .free "range") rfl), He.free_ok X G (c.fact 43 (f := .free "sorted") rfl), He.free_ok X G (c.fact 44 (f := .free "str") rfl), He.free_ok X G (c.fact 45 (f := .free "sum") rfl), He.free_ok X G (c.fact 46 (f := .free "tuple") rfl), He.free_ok X G (c.fact 47 (f := .free "zip") rfl), He.int_ok X G (c.fact 48 (f := .int "MOST" 8) rfl)⟩
  obtain ⟨fd__law_tape, F__law_tape⟩ := c.def_ 0 (d := d__law_tape) rfl
  obtain ⟨fd__law_orders, F__law_orders⟩ := c.def_ 1 (d := d__law_orders) rfl
  obtain ⟨fd__law_height, F__law_height⟩ := c.def_ 2 (d := d__law_height) rfl
  obtain ⟨fd__law_up, F__law_up⟩ := c.def_ 3 (d := d__law_up) rfl
  obtain ⟨fd__law_lowest, F__law_lowest⟩ := c.def_ 4 (d := d__law_lowest) rfl
  obtain ⟨fd__law_put, F__law_put⟩ := c.def_ 5 (d := d__law_put) rfl
  obtain ⟨fd__law_least, F__law_least⟩ := c.def_ 6 (d := d__law_least) rfl
  obtain ⟨fd_Search_crowd, F_Search_crowd⟩ := c.def_ 7 (d := d_Search_crowd) rfl
  obtain ⟨fd_Search___init__, F_Search___init__⟩ := c.def_ 8 (d := d_Search___init__) rfl
  obtain ⟨fd_end_of, F_end_of⟩ := c.def_ 9 (d := d_end_of) rfl
  obtain ⟨fd_lie_over, F_lie_over⟩ := c.def_ 10 (d := d_lie_over) rfl
  obtain ⟨fd_rounded, F_rounded⟩ := c.def_ 11 (d := d_rounded) rfl
  obtain ⟨fd_least_place, F_least_place⟩ := c.def_ 12 (d := d_least_place) rfl
  obtain ⟨fd_Search_go_on, F_Search_go_on⟩ := c.def_ 13 (d := d_Search_go_on) rfl
  obtain ⟨fd_least, F_least⟩ := c.def_ 14 (d := d_least) rfl
  obtain ⟨fd__law_draw, F__law_draw⟩ := c.def_ 15 (d := d__law_draw) rfl
  obtain ⟨fd__law_mixed, F__law_mixed⟩ := c.def_ 16 (d := d__law_mixed) rfl
  obtain ⟨fd__law_some, F__law_some⟩ := c.def_ 17 (d := d__law_some) rfl
  obtain ⟨fd__law_few, F__law_few⟩ := c.def_ 18 (d := d__law_few) rfl
  obtain ⟨fd__law_pairs, F__law_pairs⟩ := c.def_ 19 (d := d__law_pairs) rfl
  obtain ⟨fd_is_number, F_is_number⟩ := c.def_ 20 (d := d_is_number) rfl
  obtain ⟨fd_are_places, F_are_places⟩ := c.def_ 21 (d := d_are_places) rfl
  obtain ⟨fd_first_over, F_first_over⟩ := c.def_ 22 (d := d_first_over) rfl
  obtain ⟨fd_is_placing, F_is_placing⟩ := c.def_ 23 (d := d_is_placing) rfl
  obtain ⟨fd_height, F_height⟩ := c.def_ 24 (d := d_height) rfl
  obtain ⟨fd_is_least, F_is_least⟩ := c.def_ 25 (d := d_is_least) rfl
  obtain ⟨fd__law_places, F__law_places⟩ := c.def_ 26 (d := d__law_places) rfl
  obtain ⟨fd__law_over, F__law_over⟩ := c.def_ 27 (d := d__law_over) rfl
  obtain ⟨fd__law_placing, F__law_placing⟩ := c.def_ 28 (d := d__law_placing) rfl
  obtain ⟨fd_law, F_law⟩ := c.def_ 29 (d := d_law) rfl
  have e := hf.symm.trans (He.glo_ok X G (c.fact 29 (f := .glo "law") rfl))
  cases e
  refine ⟨fd_law, fun s v => FunD.bindsA (ps := ["_law_script"]) F_law (fun _ _ _ _ _ _ us hl => match us, hl with | [_], _ => rfl) s [v] rfl, fun base => ?_⟩
  have c__law_tape := ok__law_tape (P := P) (w := w) (base := base) (cl := hcl K) Fc F__law_tape (He.glo_ok X G (c.fact 0 (f := .glo "_law_tape") rfl))
  have cg__law_orders := all__law_orders (P := P) (w := w) (base := base) (cl := hcl K) Fc F__law_orders (He.glo_ok X G (c.fact 1 (f := .glo "_law_orders") rfl)) 45
  have c__law_orders : CalG P w K mg base 45 "_law_orders" (spM ⟨K, hcl K⟩ 1 f__law_orders) := cg__law_orders
  have c__law_height := ok__law_height (P := P) (w := w) (base := base) (cl := hcl K) Fc F__law_height (He.glo_ok X G (c.fact 2 (f := .glo "_law_height") rfl))
  have c__law_up := ok__law_up (P := P) (w := w) (base := base) (cl := hcl K) Fc F__law_up (He.glo_ok X G (c.fact 3 (f := .glo "_law_up") rfl))
  have c__law_lowest := ok__law_lowest (P := P) (w := w) (base := base) (cl := hcl K) Fc F__law_lowest (He.glo_ok X G (c.fact 4 (f := .glo "_law_lowest") rfl)) c__law_up
  have c__law_put := ok__law_put (P := P) (w := w) (base := base) (cl := hcl K) Fc F__law_put (He.glo_ok X G (c.fact 5 (f := .glo "_law_put") rfl)) c__law_lowest
  have c__law_least := ok__law_least (P := P) (w := w) (base := base) (cl := hcl K) Fc F__law_least (He.glo_ok X G (c.fact 6 (f := .glo "_law_least") rfl)) c__law_orders c__law_height c__law_put
  have cg_Search_crowd := all_Search_crowd (P := P) (w := w) (base := base) (cl := hcl K) Fc F_Search_crowd (He.meth_ok (c.fact 7 (f := .meth "Search" "crowd") rfl)) 45
  have c_Search_crowd : MethG P w K mg base 45 (hcl K 0) "crowd" (spM ⟨K, hcl K⟩ 3 f_Search_crowd) := cg_Search_crowd
  have c_Search___init__ := ok_Search___init__ (P := P) (w := w) (base := base) (cl := hcl K) Fc F_Search___init__ (⟨He.mkr_ok (c.fact 8 (f := .mkr "Search") rfl), He.glo_ok X G (c.fact 49 (f := .glo "Search") rfl)⟩) c_Search_crowd
  have c_end_of := ok_end_of (P := P) (w := w) (base := base) (cl := hcl K) Fc F_end_of (He.glo_ok X G (c.fact 9 (f := .glo "end_of") rfl))
  have c_lie_over := ok_lie_over (P := P) (w := w) (base := base) (cl := hcl K) Fc F_lie_over (He.glo_ok X G (c.fact 10 (f := .glo "lie_over") rfl)) c_end_of
  have c_rounded := ok_rounded (P := P) (w := w) (base := base) (cl := hcl K) Fc F_rounded (He.glo_ok X G (c.fact 11 (f := .glo "rounded") rfl))
  have c_least_place := ok_least_place (P := P) (w := w) (base := base) (cl := hcl K) Fc F_least_place (He.glo_ok X G (c.fact 12 (f := .glo "least_place") rfl)) c_lie_over c_rounded c_end_of
  have cg_Search_go_on := all_Search_go_on (P := P) (w := w) (base := base) (cl := hcl K) Fc F_Search_go_on (He.meth_ok (c.fact 13 (f := .meth "Search" "go_on") rfl)) c_least_place c_end_of 45
  have c_Search_go_on : MethG P w K mg base 48 (hcl K 0) "go_on" (spM ⟨K, hcl K⟩ 4 f_Search_go_on) := cg_Search_go_on
  have c_least := ok_least (P := P) (w := w) (base := base) (cl := hcl K) Fc F_least (He.glo_ok X G (c.fact 14 (f := .glo "least") rfl)) c_Search___init__ c_Search_go_on
  have c__law_draw := ok__law_draw (P := P) (w := w) (base := base) (cl := hcl K) Fc F__law_draw (He.glo_ok X G (c.fact 15 (f := .glo "_law_draw") rfl))
  have c__law_mixed := ok__law_mixed (P := P) (w := w) (base := base) (cl := hcl K) Fc F__law_mixed (He.glo_ok X G (c.fact 16 (f := .glo "_law_mixed") rfl)) c__law_draw
  have c__law_some := ok__law_some (P := P) (w := w) (base := base) (cl := hcl K) Fc F__law_some (He.glo_ok X G (c.fact 17 (f := .glo "_law_some") rfl)) c_least c__law_mixed c__law_put c__law_draw
  have c__law_few := ok__law_few (P := P) (w := w) (base := base) (cl := hcl K) Fc F__law_few (He.glo_ok X G (c.fact 18 (f := .glo "_law_few") rfl)) c__law_draw
  have c__law_pairs := ok__law_pairs (P := P) (w := w) (base := base) (cl := hcl K) Fc F__law_pairs (He.glo_ok X G (c.fact 19 (f := .glo "_law_pairs") rfl)) c__law_draw
  have c_is_number := ok_is_number (P := P) (w := w) (base := base) (cl := hcl K) Fc F_is_number (He.glo_ok X G (c.fact 20 (f := .glo "is_number") rfl))
  have c_are_places := ok_are_places (P := P) (w := w) (base := base) (cl := hcl K) Fc F_are_places (He.glo_ok X G (c.fact 21 (f := .glo "are_places") rfl)) c_is_number
  have c_first_over := ok_first_over (P := P) (w := w) (base := base) (cl := hcl K) Fc F_first_over (He.glo_ok X G (c.fact 22 (f := .glo "first_over") rfl)) c_lie_over
  have c_is_placing := ok_is_placing (P := P) (w := w) (base := base) (cl := hcl K) Fc F_is_placing (He.glo_ok X G (c.fact 23 (f := .glo "is_placing") rfl)) c_are_places c_first_over
  have c_height := ok_height (P := P) (w := w) (base := base) (cl := hcl K) Fc F_height (He.glo_ok X G (c.fact 24 (f := .glo "height") rfl)) c_end_of
  have c_is_least := ok_is_least (P := P) (w := w) (base := base) (cl := hcl K) Fc F_is_least (He.glo_ok X G (c.fact 25 (f := .glo "is_least") rfl)) c_is_placing c_height c_least
  have c__law_places := ok__law_places (P := P) (w := w) (base := base) (cl := hcl K) Fc F__law_places (He.glo_ok X G (c.fact 26 (f := .glo "_law_places") rfl))
  have c__law_over := ok__law_over (P := P) (w := w) (base := base) (cl := hcl K) Fc F__law_over (He.glo_ok X G (c.fact 27 (f := .glo "_law_over") rfl))
  have c__law_placing := ok__law_placing (P := P) (w := w) (base := base) (cl := hcl K) Fc F__law_placing (He.glo_ok X G (c.fact 28 (f := .glo "_law_placing") rfl)) c__law_places c__law_over
  exact ok_law Fc F_law c__law_tape c__law_least c__law_some c__law_draw c__law_few c__law_pairs c_is_least c__law_placing c__law_height
end FM
namespace FM
open PySem PySem.Spec L2 PyProof.Rows
open PySem.W (dataLe alike dataLt)
theorem oSortV_encP (xs : List (Int × (Int × Int))) : oSortV [.fz (.list (xs.map encP))] = some (.lst ((sortP xs).map encP)) := by
  rw [oSortV_eq, oSortU_encP]
/-! ### pairs that are busy together -/
theorem len_le_sub {α : Type} [DecidableEq α] : ∀ {l r : List α}, l.Nodup → (∀ x ∈ l, x ∈ r) → l.length ≤ r.length
  | [], _, _, _ => Nat.zero_le _
  | x :: l, r, h, s => by
    have h1 := List.nodup_cons.mp h
    have hx : x ∈ r := s x List.mem_cons_self
    have ih := len_le_sub (l := l) (r := r.erase x) h1.2 fun y m => by
      have : y ≠ x := fun e => h1.1 (e ▸ m)
      exact (List.mem_erase_of_ne this).mpr (s y (List.mem_cons_of_mem _ m))
    have := List.length_erase_of_mem hx
    have hp : 0 < r.length := List.length_pos_of_mem hx
    rw [List.length_cons]
    omega
def addP (L : List (Int × Int)) (p : Int × Int) : List (Int × Int) := if p ∈ L then L else L ++ [p]
def addV (t : Int) (L : List (Int × Int)) : List Int → List (Int × Int)
  | [] => L
  | u :: V => addV t (addP L (t, u)) V
def addB (L : List (Int × Int)) : List Int → List (Int × Int)
  | [] => L
  | t :: c => addB (addV t L c) c
def addA (L : List (Int × Int)) : List (List Int) → List (Int × Int)
  | [] => L
  | b :: B => addA (addB L b) B
theorem addP_mem {L : List (Int × Int)} {p q : Int × Int} : q ∈ addP L p ↔ q ∈ L ∨ q = p := by
  unfold addP
  by_cases h : p ∈ L
  · rw [if_pos h]
    exact ⟨.inl, fun z => z.elim id fun e => e ▸ h⟩
  · rw [if_neg h, List.mem_append, List.mem_singleton]
theorem addV_mem {t : Int} {q : Int × Int} : ∀ {V : List Int} {L : List (Int × Int)}, q ∈ addV t L V ↔ q ∈ L ∨ ∃ u ∈ V, q = (t, u)
  | [], L => by simp [addV]
  | u :: V, L => by
    have ih := addV_mem (t := t) (q := q) (V := V) (L := addP L (t, u))
    show q ∈ addV t (addP L (t, u)) V ↔ _
    rw [ih, addP_mem]
    constructor
    · rintro ((h | h) | ⟨w, m, e⟩)
      · exact .inl h
      · exact .inr ⟨u, List.mem_cons_self, h⟩
      · exact .inr ⟨w, List.mem_cons_of_mem _ m, e⟩
    · rintro (h | ⟨w, m, e⟩)
      · exact .inl (.inl h)
      · rcases List.mem_cons.mp m with z | m
        · subst z; exact .inl (.inr e)
        · exact .inr ⟨w, m, e⟩
def inPs : List Int → Int × Int → Prop
  | [], _ => False
  | t :: c, q => (∃ u ∈ c, q = (t, u)) ∨ inPs c q
theorem addB_mem {q : Int × Int} : ∀ {b : List Int} {L : List (Int × Int)}, q ∈ addB L b ↔ q ∈ L ∨ inPs b q
  | [], L => by simp [addB, inPs]
  | t :: c, L => by
    have ih := addB_mem (q := q) (b := c) (L := addV t L c)
    show q ∈ addB (addV t L c) c ↔ _
    rw [ih, addV_mem, or_assoc]
    rfl
theorem addA_mem {q : Int × Int} : ∀ {B : List (List Int)} {L : List (Int × Int)}, q ∈ addA L B ↔ q ∈ L ∨ ∃ b ∈ B, inPs b q
  | [], L => by simp [addA]
  | b :: B, L => by
    have ih := addA_mem (q := q) (B := B) (L := addB L b)
    show q ∈ addA (addB L b) B ↔ _
    rw [ih, addB_mem]
    constructor
    · rintro ((h | h) | ⟨w, m, e⟩)
      · exact .inl h
      · exact .inr ⟨b, List.mem_cons_self, h⟩
      · exact .inr ⟨w, List.mem_cons_of_mem _ m, e⟩
    · rintro (h | ⟨w, m, e⟩)
      · exact .inl (.inl h)
      · rcases List.mem_cons.mp m with z | m
        · subst z; exact .inl (.inr e)
        · exact .inr ⟨w, m, e⟩
theorem inPs_up {q : Int × Int} : ∀ {b : List Int}, b.Pairwise (· < ·) → (inPs b q ↔ q.1 ∈ b ∧ q.2 ∈ b ∧ q.1 < q.2)
  | [], _ => by simp [inPs]
  | t :: c, h => by
    have h1 := List.pairwise_cons.mp h
    have ih := inPs_up (q := q) h1.2
    show (∃ u ∈ c, q = (t, u)) ∨ inPs c q ↔ _
    rw [ih]
    constructor
    · rintro (⟨u, m, e⟩ | ⟨m1, m2, lt⟩)
      · subst e
        exact ⟨List.mem_cons_self, List.mem_cons_of_mem _ m, h1.1 u m⟩
      · exact ⟨List.mem_cons_of_mem _ m1, List.mem_cons_of_mem _ m2, lt⟩
    · rintro ⟨m1, m2, lt⟩
      rcases List.mem_cons.mp m1 with e1 | m1
      · rcases List.mem_cons.mp m2 with e2 | m2
        · omega
        · exact .inl ⟨q.2, m2, by rw [← e1]⟩
      · rcases List.mem_cons.mp m2 with e2 | m2
        · have := h1.1 _ m1
          omega
        · exact .inr ⟨m1, m2, lt⟩
/-- pairs of small numbers, none twice -/
def gdP (m : Int) (L : List (Int × Int)) : Prop := L.Nodup ∧ ∀ p ∈ L, (0 ≤ p.1 ∧ p.1 < m) ∧ 0 ≤ p.2 ∧ p.2 < m
theorem gdP_addP {m : Int} {L : List (Int × Int)} {p : Int × Int} (h : gdP m L) (hp : (0 ≤ p.1 ∧ p.1 < m) ∧ 0 ≤ p.2 ∧ p.2 < m) : gdP m (addP L p) := by
  refine ⟨?_, fun q hq => (addP_mem.mp hq).elim (h.2 q) fun e => by rw [e]; exact hp⟩
  unfold addP
  by_cases c : p ∈ L
  · rw [if_pos c]; exact h.1
  · rw [if_neg c]
    refine List.nodup_append.mpr ⟨h.1, by simp, fun a ha b hb => ?_⟩
    rw [List.mem_singleton.mp hb]
    exact fun e => c (e ▸ ha)
theorem gdP_addV {m t : Int} (ht : 0 ≤ t ∧ t < m) : ∀ {V : List Int} {L : List (Int × Int)}, gdP m L → (∀ u ∈ V, 0 ≤ u ∧ u < m) → gdP m (addV t L V)
  | [], _, h, _ => h
  | u :: V, L, h, hV => gdP_addV ht (V := V) (gdP_addP h ⟨ht, hV u List.mem_cons_self⟩) fun w mw => hV w (List.mem_cons_of_mem _ mw)
theorem gdP_addB {m : Int} : ∀ {b : List Int} {L : List (Int × Int)}, gdP m L → (∀ u ∈ b, 0 ≤ u ∧ u < m) → gdP m (addB L b)
  | [], _, h, _ => h
  | t :: c, L, h, hb => gdP_addB (b := c) (gdP_addV (hb t List.mem_cons_self) h fun w mw => hb w (List.mem_cons_of_mem _ mw)) fun w mw => hb w (List.mem_cons_of_mem _ mw)
theorem gdP_addA {m : Int} : ∀ {B : List (List Int)} {L : List (Int × Int)}, gdP m L → (∀ b ∈ B, ∀ u ∈ b, 0 ≤ u ∧ u < m) → gdP m (addA L B)
  | [], _, h, _ => h
  | b :: B, L, h, hb => gdP_addA (B := B) (gdP_addB h (hb b List.mem_cons_self)) fun w mw => hb w (List.mem_cons_of_mem _ mw)
theorem gdP_len {m : Int} {L : List (Int × Int)} (h : gdP m L) (hm : m ≤ 20) : L.length ≤ 400 := by
  have := len_le_sub (l := L) (r := (rngI 20).flatMap fun a => (rngI 20).map fun c => (a, c)) h.1 fun p hp => by
    obtain ⟨⟨h1, h2⟩, h3, h4⟩ := h.2 p hp
    rw [List.mem_flatMap]
    refine ⟨p.1, ?_, List.mem_map.mpr ⟨p.2, ?_, rfl⟩⟩
    · unfold rngI
      exact List.mem_map.mpr ⟨p.1.toNat, List.mem_range.mpr (by omega), by omega⟩
    · unfold rngI
      exact List.mem_map.mpr ⟨p.2.toNat, List.mem_range.mpr (by omega), by omega⟩
  exact Nat.le_trans this (by decide)
/-- the dict of them -/
def dpL (L : List (Int × Int)) : List (List Key × PD) := L.map fun p => ([.inl p.1, .inl p.2], .bool true)
theorem dpL_put {L : List (Int × Int)} {a b : Int} : putD (dpL L) [.inl a, .inl b] (.bool true) = dpL (addP L (a, b)) := by
  have e : ((dpL L).any fun kv => decide (kv.1 = ([.inl a, .inl b] : List Key))) = decide ((a, b) ∈ L) := by
    unfold dpL
    rw [List.any_map, Bool.eq_iff_iff, List.any_eq_true, decide_eq_true_eq]
    constructor
    · rintro ⟨p, mp, e⟩
      simp at e
      obtain ⟨e1, e2⟩ := e
      rw [← e1, ← e2]
      exact mp
    · intro mp
      exact ⟨(a, b), mp, by simp⟩
  unfold putD addP
  rw [e]
  by_cases h : (a, b) ∈ L
  · rw [if_pos (decide_eq_true h), if_pos h]
    unfold dpL
    rw [List.map_map]
    refine List.map_congr_left fun p _ => ?_
    simp only [Function.comp_apply]
    split <;> rfl
  · rw [if_neg (by simpa using h), if_neg h]
    unfold dpL
    rw [List.map_append]
    rfl
theorem dpL_len {L : List (Int × Int)} : (dpL L).length = L.length := by simp [dpL]
theorem dpL_tk {L : List (Int × Int)} : ((dpL L).map fun p => tkD p.1) = L.map thD := by
  unfold dpL
  rw [List.map_map]
  rfl
theorem sortC_th2 (xs : List (Int × Int)) : sortC (xs.map thD) = true := by
  unfold sortC
  simp only [Bool.and_eq_true, Bool.or_eq_true, List.all_eq_true, List.mem_map, forall_exists_index, and_imp, forall_apply_eq_imp_iff₂, decide_eq_true_eq]
  refine ⟨⟨fun x _ y _ => ?_, .inl fun x _ => rfl⟩, fun x _ => ⟨?_, ?_⟩⟩
  · simp [thD, alike, PySem.W.alikeAll]
  · simp [thD, PyData.depth, PyData.depthAll]
  · simp [thD, PyData.canLay0, PyData.canLayAll0]
def srtP (L : List (Int × Int)) : List (Int × Int) := L.mergeSort (dataLe false thD)
theorem srtP_perm {L : List (Int × Int)} : (srtP L).Perm L := List.mergeSort_perm _ _
theorem oSortT_dp {L : List (Int × Int)} : oSortT [.dit (dpL L)] = some (.lst ((srtP L).map thD)) := by
  show (if sortC ((dpL L).map fun p => tkD p.1) then some (O.lst (sortD ((dpL L).map fun p => tkD p.1))) else none) = _
  rw [dpL_tk, sortC_th2]
  simp only [if_true]
  congr 2
  exact (PySem.W.sort_maps (r := dataLe false thD) (s := dataLe false id) thD fun _ _ _ _ => rfl).symm
theorem srtP_sorted {L : List (Int × Int)} (h : L.Nodup) : (srtP L).Pairwise fun x y => x.1 < y.1 ∨ (x.1 = y.1 ∧ x.2 < y.2) := by
  have h1 := PySem.W.sort_pairwise (le := dataLe false thD) (PySem.W.sortLe_total (PyProof.Rows.listOrd PyProof.Rows.itemOrd) false fun b => PySem.W.keyToks (thD b)) L
  have h2 : (srtP L).Nodup := srtP_perm.nodup_iff.mpr h
  have e : (dataLe false thD) = fun p q : Int × Int => decide (p.1 < q.1 ∨ (p.1 = q.1 ∧ p.2 ≤ q.2)) := PySem.W.dataLe_ii (fun p : Int × Int => p.1) (fun p => p.2)
  refine (h1.and h2).imp fun {a b} q => ?_
  obtain ⟨q1, q2⟩ := q
  rw [e] at q1
  simp at q1
  rcases q1 with q1 | ⟨q1, q3⟩
  · exact .inl q1
  · refine .inr ⟨q1, ?_⟩
    have : a.2 ≠ b.2 := fun z => q2 (Prod.ext q1 z)
    omega
/-- as pairs of numbers -/
def natP2 (L : List (Int × Int)) : List (Nat × Nat) := (srtP L).map fun p => (p.1.toNat, p.2.toNat)
theorem natP2_prD {m : Int} {L : List (Int × Int)} (h : gdP m L) : (srtP L).map thD = (natP2 L).map prD := by
  unfold natP2
  rw [List.map_map]
  refine List.map_congr_left fun p mp => ?_
  obtain ⟨⟨h1, h2⟩, h3, h4⟩ := h.2 p (srtP_perm.mem_iff.mp mp)
  simp only [thD, prD, Function.comp_apply]
  rw [Int.toNat_of_nonneg h1, Int.toNat_of_nonneg h3]
theorem natP2_mem {m : Int} {L : List (Int × Int)} (h : gdP m L) {q : Nat × Nat} : q ∈ natP2 L ↔ ((q.1 : Int), (q.2 : Int)) ∈ L := by
  unfold natP2
  rw [List.mem_map]
  constructor
  · rintro ⟨p, mp, e⟩
    have mp := srtP_perm.mem_iff.mp mp
    obtain ⟨⟨h1, h2⟩, h3, h4⟩ := h.2 p mp
    rw [← e]
    simp only
    rw [Int.toNat_of_nonneg h1, Int.toNat_of_nonneg h3]
    exact mp
  · intro mp
    exact ⟨_, srtP_perm.mem_iff.mpr mp, by simp⟩
theorem natP2_len {L : List (Int × Int)} : (natP2 L).length = L.length := by
  unfold natP2
  rw [List.length_map, srtP_perm.length_eq]
end FM
namespace FM
open PySem PySem.Spec L2 PyProof.Rows
/-! ### what lies apart takes room -/
def apR (x y : Int × Int) : Prop := x.2 = 0 ∨ y.2 = 0 ∨ x.1 + x.2 ≤ y.1 ∨ y.1 + y.2 ≤ x.1
def trm (h : Int) (x : Int × Int) : Int × Int := if x.1 + x.2 = h ∧ 0 < x.2 then (x.1, x.2 - 1) else x
theorem trm_cases {h : Int} {x : Int × Int} : (x.1 + x.2 = h ∧ 0 < x.2 ∧ trm h x = (x.1, x.2 - 1)) ∨ (¬ (x.1 + x.2 = h ∧ 0 < x.2) ∧ trm h x = x) := by
  unfold trm
  by_cases c : x.1 + x.2 = h ∧ 0 < x.2
  · exact .inl ⟨c.1, c.2, if_pos c⟩
  · exact .inr ⟨c, if_neg c⟩
theorem trm_ap {h : Int} {x y : Int × Int} (a : apR x y) : apR (trm h x) (trm h y) := by
  unfold apR at a ⊢
  rcases trm_cases (h := h) (x := x) with ⟨h1, h2, e1⟩ | ⟨h1, e1⟩ <;> rcases trm_cases (h := h) (x := y) with ⟨h3, h4, e2⟩ | ⟨h3, e2⟩ <;> rw [e1, e2] <;> (try simp only) <;> omega
theorem trm_sum {h : Int} : ∀ {l : List (Int × Int)}, (∀ x ∈ l, 0 ≤ x.1 ∧ 0 ≤ x.2 ∧ (x.2 = 0 ∨ x.1 + x.2 ≤ h)) → l.Pairwise apR → (l.map (·.2)).sum ≤ ((l.map (trm h)).map (·.2)).sum + 1
  | [], _, _ => by simp
  | x :: l, hb, hp => by
    have hp1 := List.pairwise_cons.mp hp
    rcases trm_cases (h := h) (x := x) with ⟨h1, h2, e1⟩ | ⟨h1, e1⟩
    · have e : l.map (trm h) = l := by
        have : l.map (trm h) = l.map id := List.map_congr_left fun y my => by
          have a := hp1.1 y my
          have b := hb y (List.mem_cons_of_mem _ my)
          rcases trm_cases (h := h) (x := y) with ⟨h3, h4, e2⟩ | ⟨h3, e2⟩
          · unfold apR at a
            omega
          · exact e2
        rw [this, List.map_id]
      rw [List.map_cons, List.map_cons, List.map_cons, List.sum_cons, List.sum_cons, e, e1]
      simp only
      omega
    · have ih := trm_sum (l := l) (fun y my => hb y (List.mem_cons_of_mem _ my)) hp1.2
      rw [List.map_cons, List.map_cons, List.map_cons, List.sum_cons, List.sum_cons, e1]
      omega
theorem sum_zero : ∀ {l : List (Int × Int)}, (∀ x ∈ l, x.2 = 0) → (l.map (·.2)).sum = 0
  | [], _ => rfl
  | x :: l, h => by
    rw [List.map_cons, List.sum_cons, sum_zero fun y my => h y (List.mem_cons_of_mem _ my), h x List.mem_cons_self]
    rfl
theorem ap_sum : ∀ (h : Nat) {l : List (Int × Int)}, (∀ x ∈ l, 0 ≤ x.1 ∧ 0 ≤ x.2 ∧ (x.2 = 0 ∨ x.1 + x.2 ≤ (h : Int))) → l.Pairwise apR → (l.map (·.2)).sum ≤ (h : Int)
  | 0, l, hb, _ => by
    rw [sum_zero fun x mx => by have := hb x mx; omega]
    omega
  | h + 1, l, hb, hp => by
    have s := trm_sum (h := ((h + 1 : Nat) : Int)) hb hp
    have ih := ap_sum h (l := l.map (trm ((h + 1 : Nat) : Int))) (fun y my => by
      obtain ⟨x, mx, rfl⟩ := List.mem_map.mp my
      have := hb x mx
      rcases trm_cases (h := ((h + 1 : Nat) : Int)) (x := x) with ⟨h3, h4, e2⟩ | ⟨h3, e2⟩ <;> rw [e2] <;> (try simp only) <;> omega) (List.pairwise_map.mpr (hp.imp fun a => trm_ap a))
    omega
/-! ### the greatest and the first of them -/
def grF : Option (Int × Nat) → Nat → List Int → Option (Int × Nat)
  | s, _, [] => s
  | none, i, x :: r => grF (some (x, i)) (i + 1) r
  | some (m, j), i, x :: r => grF (if m < x then some (x, i) else some (m, j)) (i + 1) r
def isGr (pre : List Int) (m : Int) (j : Nat) : Prop := pre[j]? = some m ∧ (∀ k, k < j → ∀ y, pre[k]? = some y → y < m) ∧ ∀ y ∈ pre, y ≤ m
theorem grF_is : ∀ {r pre : List Int} {m : Int} {j : Nat}, isGr pre m j → ∃ m' j', grF (some (m, j)) pre.length r = some (m', j') ∧ isGr (pre ++ r) m' j'
  | [], pre, m, j, h => ⟨m, j, rfl, by rw [List.append_nil]; exact h⟩
  | x :: r, pre, m, j, h => by
    obtain ⟨h1, h2, h3⟩ := h
    have hj : j < pre.length := (List.getElem?_eq_some_iff.mp h1).1
    have hl : (pre ++ [x]).length = pre.length + 1 := by simp
    show ∃ m' j', grF (if m < x then some (x, pre.length) else some (m, j)) (pre.length + 1) r = _ ∧ _
    by_cases c : m < x
    · have ih := grF_is (r := r) (pre := pre ++ [x]) (m := x) (j := pre.length) ⟨by simp, fun k hk y ey => by
        rw [List.getElem?_append_left hk] at ey
        have := h3 y (List.mem_of_getElem? ey)
        omega, fun y my => by
        rcases List.mem_append.mp my with z | z
        · have := h3 y z; omega
        · rw [List.mem_singleton.mp z]; exact Int.le_refl _⟩
      rw [hl] at ih
      rw [if_pos c]
      simpa using ih
    · have ih := grF_is (r := r) (pre := pre ++ [x]) (m := m) (j := j) ⟨by rw [List.getElem?_append_left hj]; exact h1, fun k hk y ey => by
        rw [List.getElem?_append_left (by omega)] at ey
        exact h2 k hk y ey, fun y my => by
        rcases List.mem_append.mp my with z | z
        · exact h3 y z
        · rw [List.mem_singleton.mp z]; omega⟩
      rw [hl] at ih
      rw [if_neg c]
      simpa using ih
theorem grF_all {x : Int} {r : List Int} : ∃ m j, grF none 0 (x :: r) = some (m, j) ∧ isGr (x :: r) m j := by
  have := grF_is (r := r) (pre := [x]) (m := x) (j := 0) ⟨rfl, fun k hk => by omega, fun y my => by rw [List.mem_singleton.mp my]; exact Int.le_refl _⟩
  exact this
theorem isGr_max {l : List Int} {m : Int} {j : Nat} (h : isGr l m j) : maxI l = m ∧ fstAt m l = some j := by
  obtain ⟨h1, h2, h3⟩ := h
  have mm := List.mem_of_getElem? h1
  have hne : l ≠ [] := fun e => by rw [e] at mm; cases mm
  obtain ⟨a1, a2⟩ := maxI_is hne
  have e : maxI l = m := by
    have := a2 m mm
    have := h3 _ a1
    omega
  refine ⟨e, ?_⟩
  obtain ⟨j2, e2, _⟩ := fstAt_mem mm
  obtain ⟨b1, b2⟩ := fstAt_is e2
  have : j2 = j := by
    rcases Nat.lt_trichotomy j2 j with q | q | q
    · have := h2 j2 q m b1
      omega
    · exact q
    · exact absurd h1 (b2 j q)
  rw [e2, this]
def prG : Option (Int × Nat) → PD
  | none => .tuple [.int 0, .none]
  | some (m, j) => .tuple [.int m, .int (j : Int)]
def grD (l : List Int) : PD := prG (grF none 0 l)
/-- what is greatest is not above what nothing is above -/
theorem grD_top {l : List Int} {h : Int} (h0 : 0 ≤ h) (hl : ∀ x ∈ l, x ≤ h) : ∃ m y, grD l = .tuple [.int m, y] ∧ m ≤ h := by
  cases l with
  | nil => exact ⟨0, _, rfl, h0⟩
  | cons x r =>
    obtain ⟨m, j, e, g⟩ := grF_all (x := x) (r := r)
    exact ⟨m, _, by rw [grD, e]; rfl, hl m (List.mem_of_getElem? g.1)⟩
end FM
namespace FM
open PySem PySem.Spec L2 PyProof.Rows
def tpO (a s c : Int) : O := .lst [.int a, .int s, .int c]
theorem draw_spec {a s c m : Int} {n : Nat} {Q : O → List O → Prop} (ha : 0 ≤ a) (hs : 0 ≤ s) (hs2 : s < 2 ^ 62) (hc : 0 ≤ c) (hc2 : c ≤ n) (hn : n < 2 ^ 40) (hm : 0 < m) (hm2 : m < 2 ^ 200)
    (h : ∀ r a' c', 0 ≤ r → r < m → 0 ≤ a' → 0 ≤ c' → c' ≤ ((n + 1 : Nat) : Int) → Q (.fz (.int r)) [.lst [.int a', .int s, .int c'], .dead]) : wF (f__law_draw [.lst [.int a, .int s, .int c], .fz (.int m)]) Q := by
  unfold f__law_draw m__law_draw
  simp (maxSteps := 2000000) (disch := omega) [wS_seq, List.getElem?_cons_zero, qOp, qB, qCons, qNil, ixN, oMod_i, oDiv_i, oPow_i, oMul_l, oMul_r]
  refine ⟨fun h0 => ?_, fun h0 => ?_⟩
  · exact h _ _ _ (Int.emod_nonneg _ (by omega)) (Int.emod_lt_of_pos _ hm) (Int.ediv_nonneg ha (by omega)) hc (by omega)
  · exact h _ _ _ (Int.emod_nonneg _ (by omega)) (Int.emod_lt_of_pos _ hm) ha (by omega) (by omega)
theorem tape_spec {ns : List Int} {k : Int} {Q : O → List O → Prop} (h0 : 0 ≤ k) (h1 : k ≤ 100) (h : ∀ a s, 0 ≤ a → 0 ≤ s → s < 2 ^ 62 → Q (.lst [.int a, .int s, .int 0]) [.dead, .dead]) : wF (f__law_tape [.fz (.list (ns.map .int)), .fz (.int k)]) Q := by
  unfold f__law_tape m__law_tape
  simp (maxSteps := 2000000) (disch := omega) [wS_seq, List.getElem?_cons_zero, qOp, qB, qCons, qNil, qIf, qCb, qLst, ixN, oMod_i, oDiv_i, oPow_i, oMul_l, oMul_r]
  have hc : ∃ cell : Int, (match some (decide (k < ns.length)) with
        | some true => Option.map O.fz (atI (List.map PyData.int ns) k)
        | some false => some (O.fz (PyData.int 0))
        | none => none) = some (.fz (.int cell)) := by
    by_cases hk : k < ns.length
    · refine ⟨ns[k.toNat]'(by omega), ?_⟩
      rw [decide_eq_true hk, atI_nn h0]
      simp
    · refine ⟨0, ?_⟩
      rw [decide_eq_false hk]
  obtain ⟨cell, hc⟩ := hc
  refine ⟨_, hc, ?_⟩
  have h3 := Int.emod_nonneg cell (by decide : (2305843009213693951 : Int) ≠ 0)
  have h4 := Int.emod_lt_of_pos cell (by decide : (0 : Int) < 2305843009213693951)
  by_cases hb : (1000000000000000000 : Int) ≤ (if cell < 0 then -cell else cell)
  · simp (maxSteps := 2000000) (disch := omega) [hb, oMod_i, oMul_r, sizeLine]
    exact h _ _ (by omega) (by omega) (by omega)
  · simp (maxSteps := 2000000) (disch := omega) [hb, oMod_i, oMul_r, sizeLine]
    exact h _ _ (by omega) (by omega) (by omega)
theorem q_rounded {n b : Int} (h1 : 0 < b) (h2 : b < 2 ^ 62) : qOf f_rounded [.int n, .int b] = some (.int (up n b)) := by
  apply qof_of
  unfold f_rounded m_rounded
  simp (maxSteps := 2000000) (disch := omega) [List.getElem?_cons_zero, qOp, oDiv_i, oMul_r, up]
theorem q_end_of {s b p : Int} : qOf f_end_of [.tuple [.int s, .int b], .int p] = some (.int (p + s)) := by
  apply qof_of
  unfold f_end_of m_end_of
  simp (maxSteps := 2000000) (disch := omega) [List.getElem?_cons_zero, qOp]
theorem mixed_spec {a s c : Int} {n : Nat} {xs : List Int} {Q : O → List O → Prop} (ha : 0 ≤ a) (hs : 0 ≤ s) (hs2 : s < 2 ^ 62) (hc : 0 ≤ c) (hc2 : c ≤ n) (hn : n < 2 ^ 39) (hl : xs.length ≤ 1000)
    (h : ∀ (ys : List Int) (a' c' : Int), ys.Perm xs → 0 ≤ a' → 0 ≤ c' → c' ≤ ((n + 1000 : Nat) : Int) → Q (.lst (ys.map .int)) [.lst [.int a', .int s, .int c'], .dead]) : wF (f__law_mixed [.lst [.int a, .int s, .int c], .fz (.list (xs.map .int))]) Q := by
  unfold f__law_mixed m__law_mixed
  rw [wF_defN, wS_seq]
  simp [sizeLine]
  rw [wS_seq]
  refine wS_whileI (fun k ρ => ∃ (a c : Int) (left found : List Int), ρ = [.lst [.int a, .int s, .int c], .fz (.list (xs.map .int)), .lst (left.map .int), .lst (found.map .int)] ∧ left.length = k ∧ (found ++ left).Perm xs ∧ 0 ≤ a ∧ 0 ≤ c ∧ c ≤ ((n + found.length : Nat) : Int)) xs.length ⟨a, c, xs, [], rfl, rfl, .refl _, ha, hc, by simpa using hc2⟩ ?_
  rintro k ρ ⟨a1, c1, left, found, rfl, hk, hperm, ha1, hc1, hc1'⟩
  have hlen : found.length + left.length = xs.length := by rw [← hperm.length_eq, List.length_append]
  have e0 := oNe_ints (x := .lst (left.map .int)) (y := .fz (.list [])) (l := left) (r := []) rfl rfl
  simp [e0, sizeLine]
  by_cases hnil : left = []
  · refine .inl ⟨hnil, ?_⟩
    subst hnil
    simp at hlen hperm
    exact h found a1 c1 hperm ha1 hc1 (by omega)
  · refine .inr ⟨hnil, ?_⟩
    have hpos : 0 < left.length := List.length_pos_iff.mpr hnil
    refine draw_spec ha1 hs hs2 hc1 hc1' (by omega) (by omega) (by omega) fun r a2 c2 r1 r2 ha2 hc2 hc2' => ?_
    obtain ⟨d, d1, d2⟩ := fPopAt_i (ds := left.map .int) r1 (by simpa using r2) (by simp; omega)
    rw [List.getElem?_map] at d1
    obtain ⟨y, y1, rfl⟩ := Option.map_eq_some_iff.mp d1
    have hf : found.length < 16777216 := by omega
    simp [d2, fAppend, hf, sizeLine, and_assoc]
    have hr : r.toNat < left.length := by omega
    have hel : (left.eraseIdx r.toNat).length = left.length - 1 := List.length_eraseIdx_of_lt hr
    refine ⟨left.length - 1, by omega, left.eraseIdx r.toNat, map_erase _ _ _, found ++ [y], by simp, hel, ?_, ha2, hc2, ?_⟩
    · have p1 := (erase_perm y1).append_left found
      rw [List.append_assoc]
      exact p1.symm.trans hperm
    · rw [List.length_append]
      simp at hc2' ⊢
      omega
theorem pairs_spec {a s c : Int} {n m : Nat} {Q : O → List O → Prop} (ha : 0 ≤ a) (hs : 0 ≤ s) (hs2 : s < 2 ^ 62) (hc : 0 ≤ c) (hc2 : c ≤ n) (hn : n < 2 ^ 38) (hm2 : m ≤ 1000)
    (h : ∀ ps a' c', okP m ps → ps.length ≤ 1000 * m → 0 ≤ a' → 0 ≤ c' → c' ≤ ((n + 1 + 1000 * m : Nat) : Int) → Q (.lst (ps.map prD)) [.lst [.int a', .int s, .int c'], .dead]) : wF (f__law_pairs [.lst [.int a, .int s, .int c], .fz (.int (m : Int))]) Q := by
  unfold f__law_pairs m__law_pairs
  rw [wF_defN, wS_seq]
  simp [sizeLine]
  refine draw_spec ha hs hs2 hc hc2 (by omega) (by decide) (by decide) fun way a1 c1 w0 w1 ha1 hc1 hc1' => ?_
  have hb : big62 (m : Int) = true := big62_s (by omega) (by omega)
  simp [hb]
  rw [wS_seq]
  simp [hb]
  refine wS_forI (fun i ρ => ∃ (a c : Int) (ps : List (Nat × Nat)) (x4 x5 : O), ρ = [.lst [.int a, .int s, .int c], .fz (.int (m : Int)), .fz (.int way), .lst (ps.map prD), x4, x5] ∧ 0 ≤ a ∧ 0 ≤ c ∧ c ≤ ((n + 1 + 1000 * i : Nat) : Int) ∧ ps.length ≤ 1000 * i ∧ okP m ps) ⟨a1, c1, [], .dead, .dead, rfl, ha1, hc1, by simpa using hc1', by simp, fun p mm => by cases mm⟩ ?_ ?_
  · rintro i x ρ ex ⟨a2, c2, ps, x4, x5, rfl, ha2, hc2, hc2', hl, hk⟩
    obtain ⟨rfl, hi⟩ := rngD_at ex
    have hb2 : big62 ((i : Int) + 1) = true := big62_s (by omega) (by omega)
    refine ⟨_, rfl, ?_⟩
    simp [hb, hb2]
    refine wS_forI (fun j ρ => ∃ (a c : Int) (ps : List (Nat × Nat)) (x5 : O), ρ = [.lst [.int a, .int s, .int c], .fz (.int (m : Int)), .fz (.int way), .lst (ps.map prD), .fz (.int i), x5] ∧ 0 ≤ a ∧ 0 ≤ c ∧ c ≤ ((n + 1 + 1000 * i + j : Nat) : Int) ∧ ps.length ≤ 1000 * i + j ∧ okP m ps) ⟨a2, c2, ps, _, rfl, ha2, hc2, by simpa using hc2', by simpa using hl, hk⟩ ?_ ?_
    · rintro j y ρ ey ⟨a3, c3, ps, y5, rfl, ha3, hc3, hc3', hl3, hk3⟩
      obtain ⟨rfl, hj⟩ := rngD_atL ey
      have hjm : i + 1 + j < m := by omega
      refine ⟨_, rfl, ?_⟩
      have hlen : ps.length < 16777216 := by omega
      have hok : okP m (ps ++ [(i, i + 1 + j)]) := fun q mq => by
        rcases List.mem_append.mp mq with mq | mq
        · exact hk3 q mq
        · rw [List.mem_singleton.mp mq]
          exact ⟨by simp; omega, by simpa using hjm⟩
      rw [wS_if]
      by_cases h0 : way = 0
      · simp [h0, sizeLine, fAppend, hlen, and_assoc]
        refine ⟨ps ++ [(i, i + 1 + j)], by simp [prD], ha3, hc3, by omega, by simp; omega, hok⟩
      · by_cases h1 : way = 1
        · have h2 : ¬ (2 < way) := by omega
          by_cases h3 : (i : Int) + 1 + j - i < 3
          · simp [h0, h1, h3, sizeLine, fAppend, hlen, and_assoc]
            refine ⟨ps ++ [(i, i + 1 + j)], by simp [prD], ha3, hc3, by omega, by simp; omega, hok⟩
          · simp [h1, h3, and_assoc]
            first | exact ⟨ps, rfl, ha3, hc3, by omega, by omega, hk3⟩ | exact ⟨ha3, hc3, by omega, by omega, hk3⟩
        · by_cases h2 : 2 < way
          · simp [h0, h1, h2]
            refine draw_spec ha3 hs hs2 hc3 hc3' (by omega) (by omega) (by omega) fun r a4 c4 r0 r1 ha4 hc4 hc4' => ?_
            by_cases h3 : 0 < r
            · simp [h3, sizeLine, fAppend, hlen, and_assoc]
              refine ⟨ps ++ [(i, i + 1 + j)], by simp [prD], ha4, hc4, by omega, by simp; omega, hok⟩
            · simp [h3, and_assoc]
              first | exact ⟨ps, rfl, ha4, hc4, by omega, by omega, hk3⟩ | exact ⟨ha4, hc4, by omega, by omega, hk3⟩
          · simp [h0, h1, h2, and_assoc]
            first | exact ⟨ps, rfl, ha3, hc3, by omega, by omega, hk3⟩ | exact ⟨ha3, hc3, by omega, by omega, hk3⟩
    · rintro ρ ⟨a3, c3, ps, y5, rfl, ha3, hc3, hc3', hl3, hk3⟩
      simp at hc3' hl3
      exact ⟨a3, c3, ps, ⟨_, _, rfl⟩, ha3, hc3, by omega, by omega, hk3⟩
  · rintro ρ ⟨a2, c2, ps, x4, x5, rfl, ha2, hc2, hc2', hl, hk⟩
    simp at hc2' hl
    simp
    exact h ps a2 c2 hk (by omega) ha2 hc2 (by omega)
def ocD (x : Int × (Int × Int)) : PD := .tuple [thD x.2, .int x.1]
def swapD : PD → PD
  | .tuple [a, b] => .tuple [b, a]
  | d => d
theorem q_lie {s b p s' b' p' : Int} : qOf f_lie_over [.tuple [.int s, .int b], .int p, .tuple [.int s', .int b'], .int p'] = some (.bool (lieO p s p' s')) := by
  apply qof_of
  unfold f_lie_over m_lie_over
  by_cases h1 : p < p' + s' <;> by_cases h2 : p' < p + s <;> simp [qCall, q_end_of, h1, h2, lieO]
theorem q_least {th : Int × Int} {xs : List (Int × (Int × Int))} (hb : 1 ≤ th.2) (hb2 : th.2 ≤ 64) (hl : xs.length ≤ 100000) : qOf f_least_place [thD th, .list (xs.map ocD)] = some (.int (leastG th xs)) := by
  obtain ⟨s, b⟩ := th
  simp only at hb hb2
  apply qof_of
  unfold f_least_place m_least_place
  rw [wF_defN, wS_seq]
  simp
  rw [wS_seq]
  have l1 : lcGo (fTup 2 (fCons (fName 5) (fCons (fName 6) fNil))) qYes (qTup (qCons (qVar 6) (qCons (qVar 5) qNil))) [.fz (thD (s, b)), .fz (.list (xs.map ocD)), .fz (.int 0), .dead, .dead, .dead, .dead] (xs.map ocD) = some (xs.map encP) := by
    have h := lcGo_map (f := fTup 2 (fCons (fName 5) (fCons (fName 6) fNil))) (e := qTup (qCons (qVar 6) (qCons (qVar 5) qNil))) (ρ := [.fz (thD (s, b)), .fz (.list (xs.map ocD)), .fz (.int 0), .dead, .dead, .dead, .dead]) (h := swapD) (xs := xs.map ocD) fun x m => by
      obtain ⟨y, my, rfl⟩ := List.mem_map.mp m
      refine ⟨_, rfl, ?_⟩
      simp [sizeLine, ocD, swapD]
    rw [h, List.map_map]
    rfl
  have hz : xs.length ≤ 16777216 := by omega
  simp [sizeLine, hz, l1, oSortV_encP]
  have go : ∀ (ys : List (Int × (Int × Int))) (f : Int) (x3 x4 : O), wS (forGo (fTup 2 (fCons (fName 3) (fCons (fName 4) fNil))) (sIf (bLift (qB (qCall (qOf f_lie_over) (qCons (qVar 0) (qCons (qVar 2) (qCons (qVar 4) (qCons (qVar 3) qNil))))))) (sSet 2 (mLift (qCall (qOf f_rounded) (qCons (qCall (qOf f_end_of) (qCons (qVar 4) (qCons (qVar 3) qNil))) (qCons (qOp oIx (qVar 0) (qC (.int 1))) qNil))))) sNext) (ys.map encP) [.fz (thD (s, b)), .fz (.list (xs.map ocD)), .fz (.int f), x3, x4, .dead, .dead])
      (fun ρ => ∃ x3 x4, ρ = [.fz (thD (s, b)), .fz (.list (xs.map ocD)), .fz (.int (leastGo s b f ys)), x3, x4, .dead, .dead]) (fun _ _ => False) (fun _ => False) (fun _ => False) := by
    intro ys
    induction ys with
    | nil => intro f x3 x4; exact ⟨_, _, rfl⟩
    | cons y ys ih =>
      intro f x3 x4
      obtain ⟨p, so, bo⟩ := y
      rw [List.map_cons, wS_forCons]
      refine ⟨_, rfl, ?_⟩
      by_cases c : lieO f s p so = true
      · have e : leastGo s b f ((p, so, bo) :: ys) = leastGo s b (up (p + so) b) ys := by simp [leastGo, c]
        rw [e]
        simp (disch := omega) [thD, qCall, q_lie, c, List.getElem?_cons_zero, q_end_of, q_rounded]
        have := ih (up (p + so) b) (.fz (.int p)) (.fz (.tuple [.int so, .int bo]))
        simpa [thD] using this
      · have c' : lieO f s p so = false := by simpa using c
        have e : leastGo s b f ((p, so, bo) :: ys) = leastGo s b f ys := by simp [leastGo, c']
        rw [e]
        simp [thD, qCall, q_lie, c']
        have := ih f (.fz (.int p)) (.fz (.tuple [.int so, .int bo]))
        simpa [thD] using this
  refine wS_mono (go (sortP xs) 0 .dead .dead) (fun ρ z => ?_) (fun _ _ z => z.elim) (fun _ z => z.elim) (fun _ z => z.elim)
  obtain ⟨x3, x4, rfl⟩ := z
  simp
  rfl
def thG (ts : List (Int × Int)) (u : Nat) : Int × Int := ts.getD u (1, 1)
def placeF (ts : List (Int × Int)) (ps : List (Nat × Nat)) (l : List Int) (pre : List Nat) (t : Nat) : Int := leastG (thG ts t) ((pre.filter (inP ps t)).map fun u => (l.getD u 0, thG ts u))
def placedG (ts : List (Int × Int)) (ps : List (Nat × Nat)) (od : List Nat) : List Int := buildG (placeF ts ps) [] od (List.replicate ts.length 0)
theorem q_law_up {n b : Int} (hb : 0 < b) : qOf f__law_up [.int n, .int b] = some (.int (up n b)) := by
  apply qof_of
  unfold f__law_up m__law_up
  have e := up_neg (n := n) hb
  simp (disch := omega) [oMod_i, e]
theorem q_lie_over {s b p s' b' p' : Int} : qOf f_lie_over [.tuple [.int s, .int b], .int p, .tuple [.int s', .int b'], .int p'] = some (.bool (lieO p s p' s')) := by
  apply qof_of
  unfold f_lie_over m_lie_over
  by_cases h1 : p < p' + s' <;> by_cases h2 : p' < p + s <;> simp [qCall, q_end_of, h1, h2, lieO]
theorem q_over {ts : List (Int × Int)} {pl : List Int} {q : Nat × Nat} (h1 : q.1 < ts.length) (h2 : q.2 < ts.length) (hl : pl.length = ts.length) :
    qOf f__law_over [.tuple (ts.map thD), .list (pl.map .int), .int (q.1 : Int), .int (q.2 : Int)] = some (.bool (overG ts pl q)) := by
  apply qof_of
  unfold f__law_over m__law_over
  have e1 := at_th h1
  have e2 := at_th h2
  have e3 := at_pl (pl := pl) (hl ▸ h1)
  have e4 := at_pl (pl := pl) (hl ▸ h2)
  rw [wF_defN, wS_seq]
  unfold overG lieO
  simp [e1, e2, e3, e4]
  by_cases h1 : pl[q.1]?.getD 0 < pl[q.2]?.getD 0 + (ts[q.2]?.getD (1, 1)).1 <;> by_cases h2 : pl[q.2]?.getD 0 < pl[q.1]?.getD 0 + (ts[q.1]?.getD (1, 1)).1 <;> simp [h1, h2]
theorem q_first_over {ts : List (Int × Int)} {pl : List Int} {ps : List (Nat × Nat)} (hp : okP ts.length ps) (hl : pl.length = ts.length) :
    qOf f_first_over [.tuple (ts.map thD), .list (ps.map prD), .list (pl.map .int)] = some (prsD (ps.find? (overG ts pl))) := by
  apply qof_of
  unfold f_first_over m_first_over
  rw [wF_defN, wS_seq]
  simp
  have go : ∀ (qs : List (Nat × Nat)) (x3 x4 : O), okP ts.length qs → wS (forGo (fTup 2 (fCons (fName 3) (fCons (fName 4) fNil))) (sIf (bLift (qB (qCall (qOf f_lie_over) (qCons (qOp oIx (qVar 0) (qVar 3)) (qCons (qOp oIx (qVar 2) (qVar 3)) (qCons (qOp oIx (qVar 0) (qVar 4)) (qCons (qOp oIx (qVar 2) (qVar 4)) qNil))))))) (sRet (mLift (qTup (qCons (qVar 3) (qCons (qVar 4) qNil))))) sNext) (qs.map prD) [.fz (.tuple (ts.map thD)), .fz (.list (ps.map prD)), .fz (.list (pl.map .int)), x3, x4])
      (fun ρ => prsD (qs.find? (overG ts pl)) = .none) (fun o _ => toPD o = some (prsD (qs.find? (overG ts pl)))) (fun _ => False) (fun _ => False) := by
    intro qs
    induction qs with
    | nil => intro x3 x4 _; exact rfl
    | cons q qs ih =>
      intro x3 x4 hq
      obtain ⟨g1, g2⟩ := hq q List.mem_cons_self
      have e1 := at_th (ts := ts) (t := q.1) (by omega)
      have e2 := at_th (ts := ts) (t := q.2) (by omega)
      have e3 := at_pl (pl := pl) (t := q.1) (by omega)
      have e4 := at_pl (pl := pl) (t := q.2) (by omega)
      rw [List.map_cons, wS_forCons]
      refine ⟨_, rfl, ?_⟩
      have e5 : overG ts pl q = lieO (pl.getD q.1 0) (ts.getD q.1 (1, 1)).1 (pl.getD q.2 0) (ts.getD q.2 (1, 1)).1 := rfl
      generalize pl.getD q.1 0 = p1 at *
      generalize pl.getD q.2 0 = p2 at *
      generalize ts.getD q.1 (1, 1) = t1 at *
      generalize ts.getD q.2 (1, 1) = t2 at *
      cases ho : overG ts pl q with
      | true =>
        rw [ho] at e5
        simp [e1, e2, e3, e4, qCall, q_lie_over, ← e5, List.find?_cons_of_pos ho, sizeLine, prsD, prD]
      | false =>
        rw [ho] at e5
        have e6 : (q :: qs).find? (overG ts pl) = qs.find? (overG ts pl) := by rw [List.find?_cons, ho]
        simp only [e6]
        simp [e1, e2, e3, e4, qCall, q_lie_over, ← e5]
        exact ih _ _ fun z mz => hq z (List.mem_cons_of_mem _ mz)
  refine wS_mono (go ps .dead .dead hp) (fun ρ z => ?_) (fun _ _ z => z) (fun _ z => z) (fun _ z => z)
  simp [z]
def num0 : PD → Bool
  | .int i => decide (0 ≤ i)
  | _ => false
def modOk : PD → Bool
  | .tuple [.tuple [_, .int b], .int i] => decide (i % b = 0)
  | _ => false
def overD (ts : List (Int × Int)) (pl : List Int) : PD → Bool
  | .tuple [.int t, .int u] => overG ts pl (t.toNat, u.toNat)
  | _ => false
theorem numOk_all {ds : List PD} {ts : List (Int × Int)} (hl : ds.length = ts.length) : allOk ds ts = (ds.all num0 && (zipD (ts.map thD) ds).all modOk) := by
  induction ds generalizing ts with
  | nil => cases ts <;> rfl
  | cons x ds ih =>
    cases ts with
    | nil => cases hl
    | cons t ts =>
      have := ih (ts := ts) (by simpa using hl)
      simp only [allOk, this, List.all_cons]
      cases x with
      | int i =>
        simp only [pOk, zipD, List.map_cons, List.zipWith_cons_cons, List.all_cons, pairD, thD, num0, modOk]
        generalize (List.all ds _) = u
        generalize (List.all (List.zipWith _ _ _) _) = v
        cases decide (0 ≤ i) <;> cases decide (i % t.2 = 0) <;> cases u <;> cases v <;> rfl
      | _ => simp [pOk, num0]
theorem q_num0 {d : PD} : qOf f_is_number [d, .int 0] = some (.bool (num0 d)) := by
  apply qof_of
  unfold f_is_number m_is_number
  cases d <;> simp [num0]
theorem q_are_places {ts : List (Int × Int)} {d : PD} (ho : okT ts) (hn : ts.length ≤ 1000) : qOf f_are_places [.tuple (ts.map thD), d] = some (.bool (placesOk ts d)) := by
  apply qof_of
  unfold f_are_places m_are_places
  rw [wF_defN]
  cases d with
  | list ds =>
    rw [wS_seq]
    by_cases hl : ds.length = ts.length
    · have hz : ds.length ≤ sizeLine := by unfold sizeLine; omega
      have l1 : lcGo (fName 2) qYes (qCall (qOf f_is_number) (qCons (qVar 2) (qCons (qC (.int 0)) qNil))) [.fz (.tuple (ts.map thD)), .fz (.list ds), .dead, .dead] ds = some (ds.map fun x => .bool (num0 x)) := by
        refine lcGo_map fun x m => ⟨_, rfl, ?_⟩
        simp [qCall, q_num0]
      have hz2 : ts.length ≤ sizeLine := by omega
      have e1 : oAll [.fz (.list (ds.map fun x => .bool (num0 x)))] = some (.fz (.bool (ds.all num0))) := oAll_map
      simp [hl]
      rw [wS_seq]
      have ea := numOk_all (ts := ts) hl
      cases hv : ds.all num0 with
      | false =>
        rw [hv] at ea e1
        simp [l1, hl, hz2, e1, -oAll_l, placesOk, ea]
      | true =>
        rw [hv] at ea e1
        have hzz : (zipD (ts.map thD) ds).length ≤ sizeLine := by simp [zipD]; omega
        have l2 : lcGo (fTup 2 (fCons (fName 3) (fCons (fName 2) fNil))) qYes (qOp oEq (qOp oMod (qVar 2) (qOp oIx (qVar 3) (qC (.int 1)))) (qC (.int 0))) [.fz (.tuple (ts.map thD)), .fz (.list ds), .dead, .dead] (zipD (ts.map thD) ds) = some ((zipD (ts.map thD) ds).map fun z => .bool (modOk z)) := by
          refine lcGo_map fun z m => ?_
          obtain ⟨i, hi, rfl⟩ := List.mem_iff_getElem.mp m
          obtain ⟨h1, h2, h3⟩ := zip_at hi
          rw [h3]
          have hx := List.all_eq_true.mp hv _ (List.getElem_mem h2)
          have ht := ho _ (List.getElem_mem (by simpa using h1 : i < ts.length))
          cases e : ds[i] with
          | int k =>
            refine ⟨_, rfl, ?_⟩
            simp (disch := omega) [thD, List.getElem?_cons_zero, oMod_i, pairD, modOk]
          | _ => rw [e] at hx; cases hx
        have e2 : oAll [.fz (.list ((zipD (ts.map thD) ds).map fun z => .bool (modOk z)))] = some (.fz (.bool ((zipD (ts.map thD) ds).all modOk))) := oAll_map
        simp [l1, hl, hz2, e1, e2, -oAll_l, placesOk, ea, l2, hzz]
    · have hl2 : ¬ ((ds.length : Int) = ts.length) := by omega
      simp [hl2, hl, placesOk]
  | _ => simp [wS_seq, placesOk]
theorem q_law_places {ts : List (Int × Int)} {d : PD} (ho : okT ts) : qOf f__law_places [.tuple (ts.map thD), d] = some (.bool (placesOk ts d)) := by
  apply qof_of
  unfold f__law_places m__law_places
  rw [wF_defN]
  cases d with
  | list ds =>
    rw [wS_seq]
    by_cases hl : ds.length = ts.length
    · simp [hl]
      rw [wS_seq]
      simp
      have go : ∀ (es : List PD) (us : List (Int × Int)) (x2 x3 : O), es.length = us.length → okT us → wS (forGo (fTup 2 (fCons (fName 2) (fCons (fName 3) fNil))) (sSeq (sIf (bLift (qOr (qNot (qB (qIsi "int" (qVar 2)))) (qB (qIsi "bool" (qVar 2))))) (sRet (mLift (qC (.bool false)))) sNext) (sIf (bLift (qOr (qB (qOp oLt (qVar 2) (qC (.int 0)))) (qB (qOp oNe (qOp oMod (qVar 2) (qOp oIx (qVar 3) (qC (.int 1)))) (qC (.int 0)))))) (sRet (mLift (qC (.bool false)))) sNext)) (zipD es (us.map thD)) [.fz (.tuple (ts.map thD)), .fz (.list ds), x2, x3])
          (fun ρ => allOk es us = true) (fun o _ => toPD o = some (.bool (allOk es us))) (fun _ => False) (fun _ => False) := by
        intro es
        induction es with
        | nil => intro us x2 x3 hl _; cases us with
          | nil => exact rfl
          | cons => cases hl
        | cons x es ih =>
          intro us x2 x3 hl hu
          cases us with
          | nil => cases hl
          | cons t us =>
            have ht := hu t List.mem_cons_self
            have e : zipD (x :: es) ((t :: us).map thD) = pairD x (thD t) :: zipD es (us.map thD) := rfl
            rw [e, wS_forCons]
            refine ⟨_, rfl, ?_⟩
            rw [wS_seq]
            have ih2 := fun y2 y3 => ih us y2 y3 (by simpa using hl) fun z mz => hu z (List.mem_cons_of_mem _ mz)
            cases x with
            | int i =>
              by_cases g1 : i < 0
              · have : ¬ (0 ≤ i) := by omega
                simp [g1, allOk, pOk, this]
              · have g1' : 0 ≤ i := by omega
                by_cases g2 : i % t.2 = 0
                · simp (disch := omega) [g1, thD, List.getElem?_cons_zero, oMod_i, g2, allOk, pOk, g1']
                  exact ih2 _ _
                · simp (disch := omega) [g1, thD, List.getElem?_cons_zero, oMod_i, g2, allOk, pOk]
            | _ => simp [allOk, pOk]
      refine wS_mono (go ds ts .dead .dead hl ho) (fun ρ z => ?_) (fun _ _ z => ?_) (fun _ z => z) (fun _ z => z)
      · simp [placesOk, hl, z]
      · simpa [placesOk, hl] using z
    · have hl2 : ¬ ((ds.length : Int) = ts.length) := by omega
      simp [hl2, hl, placesOk]
  | _ => simp [wS_seq, placesOk]
/-- whether a thing is a placing -/
def placingOk (ts : List (Int × Int)) (ps : List (Nat × Nat)) (d : PD) : Bool := placesOk ts d && match d with
  | .list ds => match intsD ds with
    | some pl => !ps.any (overG ts pl)
    | none => false
  | _ => false
theorem q_is_placing {ts : List (Int × Int)} {ps : List (Nat × Nat)} {d : PD} (ho : okT ts) (hn : ts.length ≤ 1000) (hp : okP ts.length ps) : qOf f_is_placing [.tuple (ts.map thD), .list (ps.map prD), d] = some (.bool (placingOk ts ps d)) := by
  apply qof_of
  unfold f_is_placing m_is_placing
  cases h : placesOk ts d with
  | false => simp [qCall, q_are_places ho hn, h, placingOk]
  | true =>
    obtain ⟨pl, rfl, hl⟩ := placesOk_ints h
    cases hf : ps.find? (overG ts pl) with
    | none =>
      have : ps.any (overG ts pl) = false := by
        rw [List.any_eq_false]
        intro q mq
        exact List.find?_eq_none.mp hf q mq
      simp [qCall, q_are_places ho hn, h, placingOk, q_first_over hp hl, hf, prsD, this]
    | some q =>
      have : ps.any (overG ts pl) = true := List.any_eq_true.mpr ⟨q, List.mem_of_find?_eq_some hf, List.find?_some hf⟩
      simp [qCall, q_are_places ho hn, h, placingOk, q_first_over hp hl, hf, prsD, prD, this]
theorem q_law_placing {ts : List (Int × Int)} {ps : List (Nat × Nat)} {d : PD} (ho : okT ts) (hp : okP ts.length ps) (hs : ps.length ≤ 10000000) : qOf f__law_placing [.tuple (ts.map thD), .list (ps.map prD), d] = some (.bool (placingOk ts ps d)) := by
  apply qof_of
  unfold f__law_placing m__law_placing
  rw [wF_defN, wS_seq]
  cases h : placesOk ts d with
  | false => simp [qCall, q_law_places ho, h, placingOk]
  | true =>
    obtain ⟨pl, rfl, hl⟩ := placesOk_ints h
    have hz : ps.length ≤ sizeLine := by unfold sizeLine; omega
    have l1 : lcGo (fTup 2 (fCons (fName 3) (fCons (fName 4) fNil))) qYes (qCall (qOf f__law_over) (qCons (qVar 0) (qCons (qVar 2) (qCons (qVar 3) (qCons (qVar 4) qNil))))) [.fz (.tuple (ts.map thD)), .fz (.list (ps.map prD)), .fz (.list (pl.map .int)), .dead, .dead] (ps.map prD) = some ((ps.map prD).map fun x => .bool (overD ts pl x)) := by
      refine lcGo_map fun x m => ?_
      obtain ⟨q, mq, rfl⟩ := List.mem_map.mp m
      have g := hp q mq
      have e := q_over (q := q) (ts := ts) (pl := pl) (by omega) (by omega) hl
      refine ⟨_, rfl, ?_⟩
      simp [qCall, e, prD, overD]
    rw [List.map_map] at l1
    have b1 := boolsD_map (ps.map (overG ts pl))
    rw [List.map_map] at b1
    have b1 : boolsD (ps.map fun q => PyData.bool (overG ts pl q)) = _ := b1
    have l1 : _ = some (ps.map fun q => PyData.bool (overG ts pl q)) := l1
    simp [qCall, q_law_places ho, h, placingOk, l1, hz, b1, List.any_map]
theorem q_height {ts : List (Int × Int)} {pl : List Int} (hl : ts.length ≤ 1000) (he : pl.length = ts.length) : qOf f_height [.tuple (ts.map thD), .list (pl.map .int)] = some (.int (topD 0 (List.zipWith (fun (t : Int × Int) p => p + t.1) ts pl))) := by
  apply qof_of
  unfold f_height m_height
  have l1 : lcGo (fTup 2 (fCons (fName 2) (fCons (fName 3) fNil))) qYes (qCall (qOf f_end_of) (qCons (qVar 2) (qCons (qVar 3) qNil))) [.fz (.tuple (ts.map thD)), .fz (.list (pl.map .int)), .dead, .dead] (zipD (ts.map thD) (pl.map .int)) = some ((List.zipWith (fun (t : Int × Int) p => p + t.1) ts pl).map .int) := by
    have h := lcGo_map (f := fTup 2 (fCons (fName 2) (fCons (fName 3) fNil))) (e := qCall (qOf f_end_of) (qCons (qVar 2) (qCons (qVar 3) qNil))) (ρ := [.fz (.tuple (ts.map thD)), .fz (.list (pl.map .int)), .dead, .dead]) (h := fun z => match z with | .tuple [.tuple [.int s, _], .int p] => .int (p + s) | d => d) (xs := zipD (ts.map thD) (pl.map .int)) fun z m => by
      obtain ⟨i, hi, rfl⟩ := List.mem_iff_getElem.mp m
      obtain ⟨h1, h2, h3⟩ := zip_at hi
      rw [h3, List.getElem_map, List.getElem_map]
      refine ⟨_, rfl, ?_⟩
      simp [qCall, thD, pairD, q_end_of]
    rw [h]
    unfold zipD
    rw [List.map_zipWith, List.map_zipWith, List.zipWith_map]
    rfl
  have hz : (zipD (ts.map thD) (pl.map PyData.int)).length ≤ 16777216 := by simp [zipD]; omega
  generalize hzz : zipD (ts.map thD) (pl.map PyData.int) = zz at l1 hz
  generalize List.zipWith (fun (t : Int × Int) p => p + t.1) ts pl = es at l1
  simp [hzz, sizeLine, hz, l1]
end FM
namespace FM
open PySem PySem.Spec L2 PyProof.Rows
theorem drop_at {od : List Nat} {i t : Nat} (et : od[i]? = some t) : od.drop i = t :: od.drop (i + 1) := by
  obtain ⟨hi, rfl⟩ := List.getElem?_eq_some_iff.mp et
  exact List.drop_eq_getElem_cons hi
def endD : PD → PD
  | .tuple [.tuple [.int s, _], .int p] => .int (p + s)
  | d => d
def frD (s q : Int) : PD → Bool
  | .tuple [.tuple [.int t, _], .int p] => decide (p + t ≤ q) || decide (q + s ≤ p)
  | _ => false
theorem frD_all {s q : Int} (xs : List (Int × (Int × Int))) : (xs.map ocD).all (frD s q) = freeB s xs q := by
  rw [List.all_map]
  rfl
theorem q_lowest {th : Int × Int} {xs : List (Int × (Int × Int))} (hs : 1 ≤ th.1) (hb : 1 ≤ th.2) (hx : ∀ y ∈ xs, 1 ≤ y.2.1) (hx0 : ∀ y ∈ xs, 0 ≤ y.1) (hl : xs.length ≤ 1000) : qOf f__law_lowest [thD th, .list (xs.map ocD)] = some (.int (leastG th xs)) := by
  obtain ⟨s, b⟩ := th
  obtain ⟨r1, r2, r3, r4, r5⟩ := leastG_is (th := (s, b)) hs hb hx
  simp only at hs hb r1 r3 r4 r5
  apply qof_of
  unfold f__law_lowest m__law_lowest
  rw [wF_defN, wS_seq]
  have hz : xs.length ≤ 16777216 := by omega
  have l1 : lcGo (fTup 2 (fCons (fName 3) (fCons (fName 4) fNil))) qYes (qOp oAdd (qVar 4) (qOp oIx (qVar 3) (qC (.int 0)))) [.fz (thD (s, b)), .fz (.list (xs.map ocD)), .dead, .dead, .dead, .dead, .dead] (xs.map ocD) = some (xs.map fun x => .int (x.1 + x.2.1)) := by
    have h := lcGo_map (f := fTup 2 (fCons (fName 3) (fCons (fName 4) fNil))) (e := qOp oAdd (qVar 4) (qOp oIx (qVar 3) (qC (.int 0)))) (ρ := [.fz (thD (s, b)), .fz (.list (xs.map ocD)), .dead, .dead, .dead, .dead, .dead]) (h := endD) (xs := xs.map ocD) fun x m => by
      obtain ⟨y, my, rfl⟩ := List.mem_map.mp m
      refine ⟨_, rfl, ?_⟩
      simp [ocD, thD, endD]
    rw [h, List.map_map]
    rfl
  simp [sizeLine, hz, l1]
  rw [wS_seq]
  have l2 : lcGo (fName 6) qYes (qCall (qOf f__law_up) (qCons (qVar 6) (qCons (qOp oIx (qVar 0) (qC (.int 1))) qNil))) [.fz (thD (s, b)), .fz (.list (xs.map ocD)), .fz (.list (xs.map fun x => .int (x.1 + x.2.1))), .dead, .dead, .dead, .dead] (xs.map fun x => .int (x.1 + x.2.1)) = some ((xs.map fun x => up (x.1 + x.2.1) b).map .int) := by
    have h := lcGo_map (f := fName 6) (e := qCall (qOf f__law_up) (qCons (qVar 6) (qCons (qOp oIx (qVar 0) (qC (.int 1))) qNil))) (ρ := [.fz (thD (s, b)), .fz (.list (xs.map ocD)), .fz (.list (xs.map fun x => .int (x.1 + x.2.1))), .dead, .dead, .dead, .dead]) (h := fun x => match x with | .int e => .int (up e b) | d => d) (xs := xs.map fun x => .int (x.1 + x.2.1)) fun x m => by
      obtain ⟨y, my, rfl⟩ := List.mem_map.mp m
      refine ⟨_, rfl, ?_⟩
      simp (disch := omega) [thD, qCall, q_law_up, List.getElem?_cons_zero]
    rw [h, List.map_map, List.map_map]
    rfl
  have hcs : (xs.map fun x => up (x.1 + x.2.1) b).length + 1 ≤ 16777216 := by simp; omega
  have hz2 : xs.length ≤ 16777215 := by omega
  have hz3 : 1 + xs.length ≤ 16777216 := by omega
  have hsort : oSortV [.fz (.list (.int 0 :: (xs.map fun x => up (x.1 + x.2.1) b).map .int))] = some (.lst ((sortI (0 :: xs.map fun x => up (x.1 + x.2.1) b)).map .int)) := by
    have e : intsD (.int 0 :: (xs.map fun x => up (x.1 + x.2.1) b).map PyData.int) = some (0 :: xs.map fun x => up (x.1 + x.2.1) b) := intsD_map (0 :: xs.map fun x : Int × (Int × Int) => up (x.1 + x.2.1) b)
    have e2 : oSortU [.fz (.list (.int 0 :: (xs.map fun x => up (x.1 + x.2.1) b).map .int))] = some (.lst ((sortI (0 :: xs.map fun x => up (x.1 + x.2.1) b)).map .int)) := by
      show (match intsD (.int 0 :: (xs.map fun x => up (x.1 + x.2.1) b).map PyData.int) with | some ns => some (O.lst ((sortI ns).map .int)) | none => _) = _
      rw [e]
    rw [oSortV_eq, e2]
  have hfind : (sortI (0 :: xs.map fun x => up (x.1 + x.2.1) b)).find? (freeB s xs) = some (leastG (s, b) xs) := by
    have hp := sortI_perm (0 :: xs.map fun x => up (x.1 + x.2.1) b)
    refine find_least (sortI_sorted _) (hp.mem_iff.mpr ?_) (freeB_iff.mpr r3) fun c mc hc => ?_
    · rcases r5 with r5 | ⟨x, mx, r5⟩
      · rw [r5]; exact List.mem_cons_self
      · rw [r5]; exact List.mem_cons_of_mem _ (List.mem_map.mpr ⟨x, mx, rfl⟩)
    · have hc2 : 0 ≤ c ∧ c % b = 0 := by
        rcases List.mem_cons.mp (hp.mem_iff.mp mc) with z | z
        · rw [z]; exact ⟨Int.le_refl _, by simp⟩
        · obtain ⟨x, mx, rfl⟩ := List.mem_map.mp z
          obtain ⟨u1, u2⟩ := up_is (e := x.1 + x.2.1) (b := b) (by omega)
          have g1 := hx x mx
          have g2 := hx0 x mx
          exact ⟨by omega, up_mod⟩
      rcases Int.lt_or_le c (leastG (s, b) xs) with z | z
      · exact (r4 c hc2.1 hc2.2 z (freeB_iff.mp hc)).elim
      · exact z
  generalize hcs2 : sortI (0 :: xs.map fun x => up (x.1 + x.2.1) b) = cs at hsort hfind
  simp only [List.map_map] at l2 hsort
  simp [sizeLine, hz, hz2, hz3, l2, hsort]
  have go : ∀ (ds : List Int) (x5 x6 : O) (v : Int), ds.find? (freeB s xs) = some v → wS (forGo (fName 5) (sSeq (sSet 6 (mLift (qOp oAdd (qVar 5) (qOp oIx (qVar 0) (qC (.int 0)))))) (sIf (bLift (qB (qCb oAll (qCons (qFz (qLc (qItA (qVar 1)) (fTup 2 (fCons (fName 3) (fCons (fName 4) fNil))) qYes (qOrV (qOp oGe (qVar 5) (qOp oAdd (qVar 4) (qOp oIx (qVar 3) (qC (.int 0))))) (qOp oLe (qVar 6) (qVar 4))) [3, 4])) qNil)))) (sRet (mLift (qVar 5))) sNext)) (ds.map .int) [.fz (thD (s, b)), .fz (.list (xs.map ocD)), .fz (.list (xs.map fun x => .int (x.1 + x.2.1))), .dead, .dead, x5, x6])
      (fun _ => False) (fun o _ => toPD o = some (.int v)) (fun _ => False) (fun _ => False) := by
    intro ds
    induction ds with
    | nil => intro x5 x6 v e; cases e
    | cons q ds ih =>
      intro x5 x6 v e
      rw [List.map_cons, wS_forCons]
      refine ⟨_, rfl, ?_⟩
      have l3 : lcGo (fTup 2 (fCons (fName 3) (fCons (fName 4) fNil))) qYes (qOrV (qOp oGe (qVar 5) (qOp oAdd (qVar 4) (qOp oIx (qVar 3) (qC (.int 0))))) (qOp oLe (qVar 6) (qVar 4))) [.fz (thD (s, b)), .fz (.list (xs.map ocD)), .fz (.list (xs.map fun x => .int (x.1 + x.2.1))), .dead, .dead, .fz (.int q), .fz (.int (q + s))] (xs.map ocD) = some ((xs.map ocD).map fun z => .bool (frD s q z)) := by
        refine lcGo_map fun x m => ?_
        obtain ⟨y, my, rfl⟩ := List.mem_map.mp m
        refine ⟨_, rfl, ?_⟩
        by_cases c1 : y.1 + y.2.1 ≤ q
        · simp [ocD, thD, frD, c1]
        · simp [ocD, thD, frD, c1]
      have hall : oAll [.fz (.list ((xs.map ocD).map fun z => .bool (frD s q z)))] = some (.fz (.bool (freeB s xs q))) := by rw [oAll_map, frD_all]
      rw [wS_seq]
      rw [List.find?_cons] at e
      generalize (xs.map ocD).map (fun z => PyData.bool (frD s q z)) = bl at l3 hall
      cases hf : freeB s xs q with
      | true =>
        rw [hf] at e hall
        cases e
        simp [thD]
        simp only [thD] at l3
        simp [-oAll_l, sizeLine, hz, l3, hall]
      | false =>
        rw [hf] at e hall
        have := ih (.fz (.int q)) (.fz (.int (q + s))) v e
        simp [thD]
        simp only [thD] at l3 this
        simp [-oAll_l, sizeLine, hz, l3, hall]
        exact this
  refine wS_mono (go cs .dead .dead _ hfind) (fun _ z => z.elim) (fun _ _ z => z) (fun _ z => z.elim) (fun _ z => z.elim)
theorem mates_itemA {m t : Nat} {ps : List (Nat × Nat)} {us : List Nat} {x0 x2 x3 x5 x6 : O} (hp : okP m ps) (hm : m ≤ 1000000) :
    lcGo (fName 6) (qB (qOp oIn (qTup (qCons (qCb oMin2 (qCons (qVar 4) (qCons (qVar 6) qNil))) (qCons (qCb oMax2 (qCons (qVar 4) (qCons (qVar 6) qNil))) qNil))) (qVar 1))) (qVar 6) [x0, .fz (.list (ps.map prD)), x2, x3, .fz (.int (t : Int)), x5, x6] (us.map natD) = some ((us.filter (inP ps t)).map natD) := by
  rw [← natD_filter (natP_natD (p := inP ps t))]
  have h := lcGo_all (f := fName 6) (c := qB (qOp oIn (qTup (qCons (qCb oMin2 (qCons (qVar 4) (qCons (qVar 6) qNil))) (qCons (qCb oMax2 (qCons (qVar 4) (qCons (qVar 6) qNil))) qNil))) (qVar 1))) (e := qVar 6) (ρ := [x0, .fz (.list (ps.map prD)), x2, x3, .fz (.int (t : Int)), x5, x6]) (p := natP (inP ps t)) (h := fun x => x) (xs := us.map natD) fun x mx => by
    obtain ⟨u, mu, rfl⟩ := List.mem_map.mp mx
    refine ⟨_, rfl, ?_, fun _ => by simp⟩
    have e1 : (if u < t then (u : Int) else (t : Int)) = ((min t u : Nat) : Int) := by split <;> omega
    have e2 : (if t < u then (u : Int) else (t : Int)) = ((max t u : Nat) : Int) := by split <;> omega
    have e3 : natP (inP ps t) (natD u) = decide ((min t u, max t u) ∈ ps) := natP_natD u
    rw [e3]
    generalize min t u = a at e1
    generalize max t u = b at e2
    have hin : oIn (.fz (.tuple [.int (a : Int), .int (b : Int)])) (.fz (.list (ps.map prD))) = some (.fz (.bool (decide ((a, b) ∈ ps)))) := oIn_prs (q := (a, b)) hp hm
    simp [natD, sizeLine, e1, e2, hin]
  rw [h, List.map_id']
def putI (ts : List (Int × Int)) (ps : List (Nat × Nat)) (od : List Nat) (i : Nat) (ρ : List O) : Prop := ∃ (l : List Int) (x4 x5 x6 : O), ρ = [.fz (.tuple (ts.map thD)), .fz (.list (ps.map prD)), .fz (.list (od.map natD)), .dic (kvI l (od.take i)), x4, x5, x6] ∧ buildG (placeF ts ps) (od.take i) (od.drop i) l = placedG ts ps od ∧ l.length = ts.length ∧ ∀ u, 0 ≤ l.getD u 0
theorem q_put {ts : List (Int × Int)} {ps : List (Nat × Nat)} {od : List Nat} (ho : okT ts) (ht : ts.length ≤ 1000) (hp : okP ts.length ps) (hod : okO ts.length od) (hl : od.length ≤ 1000) (hall : ∀ t, t < ts.length → t ∈ od) :
    qOf f__law_put [.tuple (ts.map thD), .list (ps.map prD), .list (od.map natD)] = some (.list ((placedG ts ps od).map .int)) := by
  apply qof_of
  unfold f__law_put m__law_put
  rw [wF_defN, wS_seq]
  simp
  rw [wS_seq]
  simp
  refine wS_forI (putI ts ps od) ⟨List.replicate ts.length 0, _, _, _, rfl, by simp [placedG], by simp, fun u => by simp [List.getElem?_replicate]; split <;> simp⟩ ?_ ?_
  · rintro i x ρ ex ⟨l, x4, x5, x6, rfl, hb, hll, h0⟩
    rw [List.getElem?_map] at ex
    obtain ⟨t, et, rfl⟩ := Option.map_eq_some_iff.mp ex
    have hi : i < od.length := (List.getElem?_eq_some_iff.mp et).1
    obtain ⟨n1, n2⟩ := nodup_at hod.1 et
    have htl := hod.2 t (List.mem_of_getElem? et)
    rw [drop_at et] at hb
    have hth : atI (ts.map thD) (t : Int) = some (thD (thG ts t)) := at_th (ts := ts) htl
    have hok : 1 ≤ (thG ts t).1 ∧ (thG ts t).1 ≤ 10 ^ 9 ∧ 1 ≤ (thG ts t).2 ∧ (thG ts t).2 ≤ 64 := okT_at ho htl
    have hml : ((od.take i).filter (inP ps t)).length ≤ 1000 := Nat.le_trans (List.length_filter_le _ _) (by simp; omega)
    have hmem : ∀ u ∈ (od.take i).filter (inP ps t), u < ts.length ∧ u ∈ od.take i := fun u mu => ⟨hod.2 u (List.mem_of_mem_take (List.mem_filter.mp mu).1), (List.mem_filter.mp mu).1⟩
    have it := fun (x5 x6 : O) => mates_itemA (us := od.take i) (t := t) (x0 := .fz (.tuple (ts.map thD))) (x2 := .fz (.list (od.map natD))) (x3 := .dic (kvI l (od.take i))) (x5 := x5) (x6 := x6) hp (by omega)
    have hv : placeF ts ps l (od.take i) t = leastG (thG ts t) (((od.take i).filter (inP ps t)).map fun u => (l.getD u 0, thG ts u)) := rfl
    have hb2 : buildG (placeF ts ps) (od.take (i + 1)) (od.drop (i + 1)) (l.set t (placeF ts ps l (od.take i) t)) = placedG ts ps od := by rw [take_succ_at et]; exact hb
    have hput := kvI_put (v := placeF ts ps l (od.take i) t) n1 (by omega : t < l.length)
    rw [← take_succ_at et] at hput
    have hx1 : ∀ y ∈ ((od.take i).filter (inP ps t)).map fun u => (l.getD u 0, thG ts u), 1 ≤ y.2.1 := fun y m => by
      obtain ⟨u, mu, rfl⟩ := List.mem_map.mp m
      exact (okT_at ho (hmem u mu).1).1
    have hx0 : ∀ y ∈ ((od.take i).filter (inP ps t)).map fun u => (l.getD u 0, thG ts u), 0 ≤ y.1 := fun y m => by
      obtain ⟨u, mu, rfl⟩ := List.mem_map.mp m
      exact h0 u
    have hpos : 0 ≤ placeF ts ps l (od.take i) t := (leastG_is hok.1 hok.2.2.1 hx1).2.1
    have hq := q_lowest (th := thG ts t) hok.1 hok.2.2.1 hx1 hx0 (by simpa using hml)
    have h0' : ∀ u, 0 ≤ (l.set t (placeF ts ps l (od.take i) t)).getD u 0 := fun u => by
      rw [getD_set (by omega)]
      split
      · exact hpos
      · exact h0 u
    rw [hv] at hb2 hput h0'
    generalize (od.take i).filter (inP ps t) = ms at it hml hmem hq hb2 hput h0'
    have l2 : lcGo (fName 6) qYes (qTup (qCons (qOp oIx (qVar 0) (qVar 6)) (qCons (qOp oIx (qVar 3) (qVar 6)) qNil))) [.fz (.tuple (ts.map thD)), .fz (.list (ps.map prD)), .fz (.list (od.map natD)), .dic (kvI l (od.take i)), .fz (.int (t : Int)), .fz (.list (ms.map natD)), .dead] (ms.map natD) = some ((ms.map fun u => (l.getD u 0, thG ts u)).map ocD) := by
      have h := lcGo_map (f := fName 6) (e := qTup (qCons (qOp oIx (qVar 0) (qVar 6)) (qCons (qOp oIx (qVar 3) (qVar 6)) qNil))) (ρ := [.fz (.tuple (ts.map thD)), .fz (.list (ps.map prD)), .fz (.list (od.map natD)), .dic (kvI l (od.take i)), .fz (.int (t : Int)), .fz (.list (ms.map natD)), .dead]) (h := fun x => match x with | .int u => ocD (l.getD u.toNat 0, thG ts u.toNat) | d => d) (xs := ms.map natD) fun x m => by
        obtain ⟨u, mu, rfl⟩ := List.mem_map.mp m
        have e1 : atI (ts.map thD) (u : Int) = some (thD (thG ts u)) := at_th (ts := ts) (hmem u mu).1
        have e2 := oIx_dic (kvs := kvI l (od.take i)) (i := (u : Int))
        rw [kvI_lk (hmem u mu).2] at e2
        refine ⟨_, rfl, ?_⟩
        simp only [ocD, natD, Int.toNat_natCast]
        generalize thG ts u = v at e1
        generalize l.getD u 0 = w at e2
        simp [sizeLine, e1, e2]
      rw [h, List.map_map, List.map_map]
      rfl
    have hml2 : ms.length ≤ 16777216 := by omega
    have hkl : (kvI l (od.take i)).length < 16777216 := by simp [kvI]; omega
    have hkl2 : (keysD (kvI l (od.take i))).length ≤ 16777216 := by simp [keysD, kvI]; omega
    have hkeys := kvI_keys (l := l) (od := od.take i)
    generalize leastG (thG ts t) (ms.map fun u => (l.getD u 0, thG ts u)) = val at hq hb2 hput h0'
    generalize (ms.map fun u => (l.getD u 0, thG ts u)) = mm at l2 hq
    generalize thG ts t = thv at hth hq
    rw [hkeys] at hkl2
    refine ⟨_, rfl, ?_⟩
    rw [wS_seq]
    simp only [natD]
    have hmin : ∀ n, min i n ≤ 16777216 := fun n => by omega
    rw [wS_set, wM_frz, wM_new, qLc_eq, qKeysD_eq]
    simp only [qVar_succ, qVar_dic, hkeys, wipeO_cons, wipeO_nil, List.set_cons_succ, List.set_cons_zero]
    rw [if_pos (by unfold sizeLine; exact hkl2), it]
    simp [sizeLine, hml2, l2, hth, qCall, hq, hkl]
    rw [hput]
    exact ⟨l.set t val, _, _, _, rfl, hb2, by simpa using hll, h0'⟩
  · rintro ρ ⟨l, x4, x5, x6, rfl, hb, hll, h0⟩
    have hz : od.drop (od.map natD).length = [] := by simp
    have hz2 : od.take (od.map natD).length = od := by simp
    rw [hz, buildG] at hb
    subst hb
    rw [hz2]
    have hbig : big62 (ts.length : Int) = true := big62_s (by omega) (by omega)
    have hfin := getD_all hll
    have l3 : lcGo (fName 4) qYes (qOp oIx (qVar 3) (qVar 4)) [.fz (.tuple (ts.map thD)), .fz (.list (ps.map prD)), .fz (.list (od.map natD)), .dic (kvI (placedG ts ps od) od), .dead, x5, x6] (rngD 0 ts.length) = some ((placedG ts ps od).map .int) := by
      have h := lcGo_map (f := fName 4) (e := qOp oIx (qVar 3) (qVar 4)) (ρ := [.fz (.tuple (ts.map thD)), .fz (.list (ps.map prD)), .fz (.list (od.map natD)), .dic (kvI (placedG ts ps od) od), .dead, x5, x6]) (h := fun x => match x with | .int u => .int ((placedG ts ps od).getD u.toNat 0) | d => d) (xs := rngD 0 ts.length) fun x m => by
        obtain ⟨j, hj⟩ := List.mem_iff_getElem?.mp m
        obtain ⟨rfl, hj2⟩ := rngD_at hj
        have e2 := oIx_dic (kvs := kvI (placedG ts ps od) od) (i := (j : Int))
        rw [kvI_lk (hall j hj2)] at e2
        refine ⟨_, rfl, ?_⟩
        simp only [Int.toNat_natCast]
        generalize (placedG ts ps od).getD j 0 = w at e2
        simp [e2]
      rw [h]
      have e3 : (rngD 0 ts.length).map (fun x => match x with | .int u => PyData.int ((placedG ts ps od).getD u.toNat 0) | d => d) = ((List.range ts.length).map fun t => (placedG ts ps od).getD t 0).map .int := by
        unfold rngD
        rw [List.map_map, List.map_map]
        apply List.map_congr_left
        intro j _
        simp
      rw [e3, hfin]
    have hrl : ts.length ≤ 16777216 := by omega
    simp [hbig, sizeLine, hrl, l3]
theorem placeF_congr {ts : List (Int × Int)} {ps : List (Nat × Nat)} (l l' : List Int) (pre : List Nat) (t : Nat) (h : ∀ u ∈ pre, l.getD u 0 = l'.getD u 0) : placeF ts ps l pre t = placeF ts ps l' pre t := by
  unfold placeF
  congr 1
  apply List.map_congr_left
  intro u m
  rw [h u (List.mem_filter.mp m).1]
theorem placedG_len {ts : List (Int × Int)} {ps : List (Nat × Nat)} {od : List Nat} : (placedG ts ps od).length = ts.length := by
  unfold placedG
  rw [buildG_len, List.length_replicate]
section
variable {ts : List (Int × Int)} {ps : List (Nat × Nat)} {od : List Nat}
/-- what is known of the place of each thing -/
theorem place_at {i t : Nat} (ho : okT ts) (hod : okO ts.length od) (e : od[i]? = some t) :
    0 ≤ (placedG ts ps od).getD t 0 ∧ (placedG ts ps od).getD t 0 % (thG ts t).2 = 0 ∧
    (∀ u ∈ od.take i, inP ps t u = true → lieO ((placedG ts ps od).getD t 0) (thG ts t).1 ((placedG ts ps od).getD u 0) (thG ts u).1 = false) ∧
    ∀ q, 0 ≤ q → q % (thG ts t).2 = 0 → q < (placedG ts ps od).getD t 0 → ((od.take i).filter (inP ps t)).any (fun u => lieO q (thG ts t).1 ((placedG ts ps od).getD u 0) (thG ts u).1) = true := by
  have fix := (buildG_fix (f := placeF ts ps) placeF_congr (r := od) (pre := []) (l := List.replicate ts.length 0) (by simpa using hod.1) (fun t m => by simpa using hod.2 t m)).2 i t e
  have fix : (placedG ts ps od).getD t 0 = placeF ts ps (placedG ts ps od) (od.take i) t := by simpa [placedG] using fix
  have hok : 1 ≤ (thG ts t).1 ∧ (thG ts t).1 ≤ 10 ^ 9 ∧ 1 ≤ (thG ts t).2 ∧ (thG ts t).2 ≤ 64 := okT_at ho (hod.2 t (List.mem_of_getElem? e))
  have hx1 : ∀ y ∈ ((od.take i).filter (inP ps t)).map fun u => ((placedG ts ps od).getD u 0, thG ts u), 1 ≤ y.2.1 := fun y m => by
    obtain ⟨u, mu, rfl⟩ := List.mem_map.mp m
    exact (okT_at ho (hod.2 u (List.mem_of_mem_take (List.mem_filter.mp mu).1))).1
  obtain ⟨r1, r2, r3, r4, _⟩ := leastG_is (th := thG ts t) hok.1 hok.2.2.1 hx1
  have e2 : leastG (thG ts t) (((od.take i).filter (inP ps t)).map fun u => ((placedG ts ps od).getD u 0, thG ts u)) = (placedG ts ps od).getD t 0 := by rw [fix]; rfl
  rw [e2] at r1 r2 r3 r4
  refine ⟨r2, r1, fun u mu hu => ?_, fun q q1 q2 q3 => ?_⟩
  · exact r3 ((placedG ts ps od).getD u 0, thG ts u) (List.mem_map.mpr ⟨u, List.mem_filter.mpr ⟨mu, hu⟩, rfl⟩)
  · have := r4 q q1 q2 q3
    cases ha : ((od.take i).filter (inP ps t)).any (fun u => lieO q (thG ts t).1 ((placedG ts ps od).getD u 0) (thG ts u).1) with
    | true => rfl
    | false =>
      refine (this fun x m => ?_).elim
      obtain ⟨u, mu, rfl⟩ := List.mem_map.mp m
      have := List.any_eq_false.mp ha u mu
      simpa using this
theorem at_od {t : Nat} (h : t ∈ od) : ∃ i : Nat, od[i]? = some t := List.mem_iff_getElem?.mp h
theorem in_take {i j t : Nat} (e : od[i]? = some t) (h : i < j) : t ∈ od.take j := by
  refine List.mem_iff_getElem?.mpr ⟨i, ?_⟩
  rw [List.getElem?_take_of_lt h]
  exact e
theorem placing_ok (ho : okT ts) (hp : okP ts.length ps) (hod : okO ts.length od) (hall : ∀ t, t < ts.length → t ∈ od) : placingOk ts ps (.list ((placedG ts ps od).map .int)) = true := by
  have h1 : placesOk ts (.list ((placedG ts ps od).map .int)) = true := placesOk_of placedG_len fun t ht => by
    obtain ⟨i, e⟩ := at_od (hall t ht)
    have := place_at (ps := ps) ho hod e
    exact ⟨this.1, this.2.1⟩
  have h2 : ps.any (overG ts (placedG ts ps od)) = false := by
    rw [List.any_eq_false]
    intro q mq
    obtain ⟨t, u⟩ := q
    obtain ⟨g1, g2⟩ := hp _ mq
    simp only at g1 g2
    obtain ⟨i, e1⟩ := at_od (hall t (by omega))
    obtain ⟨j, e2⟩ := at_od (hall u g2)
    have hne : i ≠ j := fun e => by
      subst e
      rw [e1] at e2
      have := Option.some.inj e2
      omega
    have goal : lieO ((placedG ts ps od).getD t 0) (thG ts t).1 ((placedG ts ps od).getD u 0) (thG ts u).1 = false := by
      rcases Nat.lt_or_ge i j with h | h
      · have p2 := (place_at (ps := ps) ho hod e2).2.2.1 t (in_take e1 h) (by
          unfold inP
          rw [show min u t = t by omega, show max u t = u by omega]
          exact decide_eq_true mq)
        have := lieO_false.mp p2
        exact lieO_false.mpr (by omega)
      · exact (place_at (ps := ps) ho hod e1).2.2.1 u (in_take e2 (by omega)) (by
          unfold inP
          rw [show min t u = t by omega, show max t u = u by omega]
          exact decide_eq_true mq)
    intro h
    have : overG ts (placedG ts ps od) (t, u) = lieO ((placedG ts ps od).getD t 0) (thG ts t).1 ((placedG ts ps od).getD u 0) (thG ts u).1 := rfl
    rw [this, goal] at h
    cases h
  simp [placingOk, h1, h2]
end
end FM
namespace FM
open PySem PySem.Spec L2 PyProof.Rows
theorem few_spec {a s c m : Int} {n : Nat} {Q : O → List O → Prop} (ha : 0 ≤ a) (hs : 0 ≤ s) (hs2 : s < 2 ^ 62) (hc : 0 ≤ c) (hc2 : c ≤ n) (hn : n < 2 ^ 39) (hm : 0 ≤ m) (hm2 : m ≤ 1000)
    (h : ∀ ts a' c', okT ts → (ts.length : Int) = m → 0 ≤ a' → 0 ≤ c' → c' ≤ ((n + 6001 : Nat) : Int) → Q (.fz (.tuple (ts.map thD))) [.lst [.int a', .int s, .int c'], .dead]) : wF (f__law_few [.lst [.int a, .int s, .int c], .fz (.int m)]) Q := by
  unfold f__law_few m__law_few
  rw [wF_defN, wS_seq]
  simp (maxSteps := 2000000) (disch := omega) [List.getElem?_cons_zero, qCons, qNil, qLst, sizeLine, qRng1]
  refine draw_spec ha hs hs2 hc hc2 (by omega) (by decide) (by decide) fun way a1 c1 w0 w1 ha1 hc1 hc1' => ?_
  have hb : big62 m = true := by unfold big62; simp; omega
  simp (maxSteps := 2000000) (disch := omega) [List.getElem?_cons_zero, qCons, qNil, qLst, sizeLine, qRng1, hb]
  rw [wS_seq]
  simp (maxSteps := 2000000) (disch := omega) [List.getElem?_cons_zero, qCons, qNil, qLst, sizeLine, qRng1, hb]
  refine wS_forI (fun i ρ => ∃ a c ts x4 x5 x6, ρ = [.lst [.int a, .int s, .int c], .fz (.int m), .fz (.int way), .lst (ts.map thD), x4, x5, x6] ∧ 0 ≤ a ∧ 0 ≤ c ∧ c ≤ ((n + 1 + 6 * i : Nat) : Int) ∧ ts.length = i ∧ okT ts) ⟨a1, c1, [], .dead, .dead, .dead, rfl, ha1, hc1, by omega, rfl, fun p m => by cases m⟩ ?_ ?_
  · rintro i x ρ ex ⟨a2, c2, ts, x4, x5, x6, rfl, ha2, hc2, hc2', hl, hk⟩
    have hi : i < m.toNat := by
      have : (rngD 0 m.toNat)[i]? ≠ none := by rw [ex]; simp
      simpa [rngD] using this
    refine ⟨_, rfl, ?_⟩
    rw [wS_seq]
    simp (maxSteps := 2000000) (disch := omega) [List.getElem?_cons_zero, qCons, qNil, qLst, sizeLine, qOp, oPow_i]
    refine draw_spec ha2 hs hs2 hc2 hc2' (by omega) (by decide) (by decide) fun r1 a3 c3 r1a r1b ha3 hc3 hc3' => ?_
    simp (maxSteps := 2000000) (disch := omega) [List.getElem?_cons_zero, qCons, qNil, qLst, sizeLine, qOp, oPow_i]
    refine draw_spec ha3 hs hs2 hc3 hc3' (by omega) (by decide) (by decide) fun r2 a4 c4 r2a r2b ha4 hc4 hc4' => ?_
    simp (maxSteps := 2000000) (disch := omega) [List.getElem?_cons_zero, qCons, qNil, qLst, sizeLine, qOp, oPow_i]
    refine draw_spec ha4 hs hs2 hc4 hc4' (by omega) (by decide) (by decide) fun r3 a5 c5 r3a r3b ha5 hc5 hc5' => ?_
    simp (maxSteps := 2000000) (disch := omega) [List.getElem?_cons_zero, qCons, qNil, qLst, sizeLine, qOp, oPow_i]
    rw [wS_seq]
    simp (maxSteps := 2000000) (disch := omega) [List.getElem?_cons_zero, qCons, qNil, qLst, sizeLine, qOp, oPow_i]
    refine draw_spec ha5 hs hs2 hc5 hc5' (by omega) (by decide) (by decide) fun r4 a6 c6 r4a r4b ha6 hc6 hc6' => ?_
    obtain ⟨z, z1, z2, z3⟩ := pickI (xs := [1 + r1, 4, 1 + r2, 6, 1 + r3, 1000000000 - r4]) (lo := 1) (hi := 10 ^ 9) (i := way) (by
      intro x hx
      simp at hx
      rcases hx with rfl | rfl | rfl | rfl | rfl | rfl <;> omega) w0 (by simpa using w1)
    simp only [List.map_cons, List.map_nil] at z3
    simp (maxSteps := 2000000) (disch := omega) [List.getElem?_cons_zero, qCons, qNil, qLst, sizeLine, qOp, oPow_i, z3]
    refine draw_spec ha6 hs hs2 hc6 hc6' (by omega) (by decide) (by decide) fun r5 a7 c7 r5a r5b ha7 hc7 hc7' => ?_
    simp (maxSteps := 2000000) (disch := omega) [List.getElem?_cons_zero, qCons, qNil, qLst, sizeLine, qOp, oPow_i, z3]
    refine draw_spec ha7 hs hs2 hc7 hc7' (by omega) (by decide) (by decide) fun r6 a8 c8 r6a r6b ha8 hc8 hc8' => ?_
    obtain ⟨y, y1, y2, y3⟩ := pickI (xs := [1, 1, 2, 4, 3, 8, 1 + r5, 6]) (lo := 1) (hi := 64) (i := r6) (by
      intro x hx
      simp at hx
      rcases hx with rfl | rfl | rfl | rfl | rfl | rfl | rfl | rfl <;> omega) r6a (by simpa using r6b)
    simp only [List.map_cons, List.map_nil] at y3
    have hlen : ts.length < 16777216 := by omega
    have ext : okT (ts ++ [(z, y)]) := fun q m => by
      rcases List.mem_append.mp m with m | m
      · exact hk q m
      · rw [List.mem_singleton.mp m]
        exact ⟨z1, z2, y1, y2⟩
    simp (disch := omega) [List.getElem?_cons_zero, y3, fAppend, hlen, sizeLine, and_assoc]
    exact ⟨ts ++ [(z, y)], by simp [thD], ha8, hc8, by omega, by simp [hl], ext⟩
  · rintro ρ ⟨a2, c2, ts, x4, x5, x6, rfl, ha2, hc2, hc2', hl, hk⟩
    have hl2 : (ts.length : Int) = m := by
      rw [hl]
      simp [rngD]
      omega
    simp
    exact h ts a2 c2 hk hl2 ha2 hc2 (by omega)
end FM
namespace FM
open PySem PySem.Spec L2 PyProof.Rows
/-! ### placings, and the lowest of them -/
def Pl (ts : List (Int × Int)) (ps : List (Nat × Nat)) (pl : List Int) : Prop := pl.length = ts.length ∧ (∀ t, t < ts.length → 0 ≤ pl.getD t 0 ∧ pl.getD t 0 % (thG ts t).2 = 0) ∧
  ∀ t u, t < ts.length → u < ts.length → t ≠ u → inP ps t u = true → lieO (pl.getD t 0) (thG ts t).1 (pl.getD u 0) (thG ts u).1 = false
def HtLe (ts : List (Int × Int)) (pl : List Int) (h : Int) : Prop := 0 ≤ h ∧ ∀ t, t < ts.length → pl.getD t 0 + (thG ts t).1 ≤ h
def ltK2 (pl : List Int) (u t : Nat) : Prop := pl.getD u 0 < pl.getD t 0 ∨ (pl.getD u 0 = pl.getD t 0 ∧ u < t)
def ahd (ts : List (Int × Int)) (ps : List (Nat × Nat)) (pl : List Int) (t : Nat) : List Nat := (List.range ts.length).filter fun u => inP ps t u && decide (pl.getD u 0 < pl.getD t 0 ∨ (pl.getD u 0 = pl.getD t 0 ∧ u < t))
def lstF (ts : List (Int × Int)) (pl : List Int) (us : List Nat) (t : Nat) : Int := leastG (thG ts t) (us.map fun u => (pl.getD u 0, thG ts u))
def Tight (ts : List (Int × Int)) (ps : List (Nat × Nat)) (pl : List Int) : Prop := Pl ts ps pl ∧ ∀ t, t < ts.length → pl.getD t 0 = lstF ts pl (ahd ts ps pl t) t
theorem inP_comm {ps : List (Nat × Nat)} {t u : Nat} : inP ps t u = inP ps u t := by
  unfold inP
  rw [Nat.min_comm, Nat.max_comm]
theorem okT_th {ts : List (Int × Int)} {t : Nat} (ho : okT ts) (h : t < ts.length) : 1 ≤ (thG ts t).1 ∧ (thG ts t).1 ≤ 10 ^ 9 ∧ 1 ≤ (thG ts t).2 ∧ (thG ts t).2 ≤ 64 := okT_at ho h
theorem lstF_is {ts : List (Int × Int)} {pl : List Int} {us : List Nat} {t : Nat} (ho : okT ts) (ht : t < ts.length) (hu : ∀ u ∈ us, u < ts.length) :
    lstF ts pl us t % (thG ts t).2 = 0 ∧ 0 ≤ lstF ts pl us t ∧ (∀ u ∈ us, lieO (lstF ts pl us t) (thG ts t).1 (pl.getD u 0) (thG ts u).1 = false) ∧
    ∀ q, 0 ≤ q → q % (thG ts t).2 = 0 → (∀ u ∈ us, lieO q (thG ts t).1 (pl.getD u 0) (thG ts u).1 = false) → lstF ts pl us t ≤ q := by
  have hok := okT_th ho ht
  obtain ⟨r1, r2, r3, r4, _⟩ := leastG_is (th := thG ts t) (xs := us.map fun u => (pl.getD u 0, thG ts u)) hok.1 hok.2.2.1 fun y m => by
    obtain ⟨u, mu, rfl⟩ := List.mem_map.mp m
    exact (okT_th ho (hu u mu)).1
  refine ⟨r1, r2, fun u mu => r3 _ (List.mem_map.mpr ⟨u, mu, rfl⟩), fun q q1 q2 q3 => ?_⟩
  rcases Int.lt_or_le q (lstF ts pl us t) with z | z
  · refine (r4 q q1 q2 z fun x m => ?_).elim
    obtain ⟨u, mu, rfl⟩ := List.mem_map.mp m
    exact q3 u mu
  · exact z
/-- only what is in the list counts -/
theorem lstF_congr {ts : List (Int × Int)} {pl pl' : List Int} {us us' : List Nat} {t : Nat} (ho : okT ts) (ht : t < ts.length) (hu : ∀ u ∈ us, u < ts.length) (he : ∀ u, u ∈ us ↔ u ∈ us') (hp : ∀ u ∈ us, pl.getD u 0 = pl'.getD u 0) : lstF ts pl us t = lstF ts pl' us' t := by
  have a := lstF_is (pl := pl) ho ht hu
  have b := lstF_is (pl := pl') (us := us') ho ht fun u mu => hu u ((he u).mpr mu)
  have h1 := a.2.2.2 _ b.2.1 b.1 fun u mu => by rw [hp u mu]; exact b.2.2.1 u ((he u).mp mu)
  have h2 := b.2.2.2 _ a.2.1 a.1 fun u mu => by rw [← hp u ((he u).mpr mu)]; exact a.2.2.1 u ((he u).mpr mu)
  omega
theorem ahd_mem {ts : List (Int × Int)} {ps : List (Nat × Nat)} {pl : List Int} {t u : Nat} : u ∈ ahd ts ps pl t ↔ u < ts.length ∧ inP ps t u = true ∧ ltK2 pl u t := by
  unfold ahd ltK2
  rw [List.mem_filter, List.mem_range, Bool.and_eq_true, decide_eq_true_eq]
theorem sum_set : ∀ {l : List Int} {t : Nat} {v : Int}, t < l.length → (l.set t v).sum = l.sum - l.getD t 0 + v
  | [], t, _, h => by cases h
  | x :: l, 0, v, _ => by simp; omega
  | x :: l, t + 1, v, h => by
    have := sum_set (l := l) (t := t) (v := v) (by simpa using h)
    simp at this ⊢
    omega
theorem sum_pos : ∀ {l : List Int}, (∀ x ∈ l, 0 ≤ x) → 0 ≤ l.sum
  | [], _ => by simp
  | x :: l, h => by
    have h1 := h x List.mem_cons_self
    have h2 := sum_pos (l := l) fun y m => h y (List.mem_cons_of_mem _ m)
    simp
    omega
theorem getD_mem {l : List Int} {x : Int} (m : x ∈ l) : ∃ t, t < l.length ∧ x = l.getD t 0 := by
  obtain ⟨t, ht, rfl⟩ := List.mem_iff_getElem.mp m
  exact ⟨t, ht, by simp [ht]⟩
section
variable {ts : List (Int × Int)} {ps : List (Nat × Nat)}
/-- from any placing one comes to a tight one that is no higher -/
theorem exists_tight (ho : okT ts) {h : Int} : ∀ (n : Nat) (pl : List Int), pl.sum ≤ (n : Int) → Pl ts ps pl → HtLe ts pl h → ∃ q, Tight ts ps q ∧ HtLe ts q h := by
  intro n
  induction n with
  | zero =>
    intro pl hs hp hh
    refine ⟨pl, ⟨hp, fun t ht => ?_⟩, hh⟩
    have z : pl.getD t 0 = 0 := by
      have h1 : ∀ x ∈ pl, 0 ≤ x := fun x m => by
        obtain ⟨t, ht, rfl⟩ := getD_mem m
        exact (hp.2.1 t (by rw [← hp.1]; exact ht)).1
      have h2 := sum_set (l := pl) (t := t) (v := 0) (by rw [hp.1]; exact ht)
      have h3 : 0 ≤ (pl.set t 0).sum := sum_pos fun x m => by
        rcases List.mem_or_eq_of_mem_set m with m | m
        · exact h1 x m
        · omega
      have h4 := (hp.2.1 t ht).1
      simp at hs
      omega
    have a := lstF_is (pl := pl) (us := ahd ts ps pl t) ho ht fun u mu => (ahd_mem.mp mu).1
    have := a.2.2.2 _ (hp.2.1 t ht).1 (hp.2.1 t ht).2 fun u mu => hp.2.2 t u ht (ahd_mem.mp mu).1 (fun e => by
      have := (ahd_mem.mp mu).2.2
      unfold ltK2 at this
      subst e
      omega) (ahd_mem.mp mu).2.1
    have := a.2.1
    omega
  | succ n ih =>
    intro pl hs hp hh
    by_cases ht : ∀ t, t < ts.length → pl.getD t 0 = lstF ts pl (ahd ts ps pl t) t
    · exact ⟨pl, ⟨hp, ht⟩, hh⟩
    · obtain ⟨t, ht⟩ := Classical.not_forall.mp ht
      obtain ⟨htl, hne⟩ := Classical.not_imp.mp ht
      have a := lstF_is (pl := pl) (us := ahd ts ps pl t) ho htl fun u mu => (ahd_mem.mp mu).1
      have hle := a.2.2.2 _ (hp.2.1 t htl).1 (hp.2.1 t htl).2 fun u mu => hp.2.2 t u htl (ahd_mem.mp mu).1 (fun e => by
        have := (ahd_mem.mp mu).2.2
        unfold ltK2 at this
        subst e
        omega) (ahd_mem.mp mu).2.1
      generalize hv : lstF ts pl (ahd ts ps pl t) t = v at a hle hne
      have hlt : v < pl.getD t 0 := by omega
      have hlen : t < pl.length := by rw [hp.1]; exact htl
      have hget : ∀ u, (pl.set t v).getD u 0 = if t = u then v else pl.getD u 0 := fun u => getD_set hlen
      have hfree : ∀ u, u < ts.length → t ≠ u → inP ps t u = true → lieO v (thG ts t).1 (pl.getD u 0) (thG ts u).1 = false := fun u hu hne hin => by
        by_cases c : ltK2 pl u t
        · exact a.2.2.1 u (ahd_mem.mpr ⟨hu, hin, c⟩)
        · have g := lieO_false.mp (hp.2.2 t u htl hu hne hin)
          have s1 := (okT_th ho hu).1
          unfold ltK2 at c
          exact lieO_false.mpr (.inr (by omega))
      refine ih (pl.set t v) (by rw [sum_set hlen]; push_cast at hs ⊢; omega) ⟨by rw [List.length_set]; exact hp.1, fun u hu => ?_, fun x u hx hu hne hin => ?_⟩ ⟨hh.1, fun u hu => ?_⟩
      · rw [hget]
        split
        · rename_i e
          subst e
          exact ⟨a.2.1, a.1⟩
        · exact hp.2.1 u hu
      · rw [hget, hget]
        by_cases e1 : t = x
        · subst e1
          rw [if_pos rfl, if_neg hne]
          exact hfree u hu hne hin
        · rw [if_neg e1]
          by_cases e2 : t = u
          · subst e2
            rw [if_pos rfl]
            have := lieO_false.mp (hfree x hx e1 (by rw [inP_comm]; exact hin))
            exact lieO_false.mpr (by omega)
          · rw [if_neg e2]
            exact hp.2.2 x u hx hu hne hin
      · rw [hget]
        have := hh.2 u hu
        split
        · rename_i e
          subst e
          omega
        · exact this
theorem tight_of (ho : okT ts) {h : Int} {pl : List Int} (hp : Pl ts ps pl) (hh : HtLe ts pl h) : ∃ q, Tight ts ps q ∧ HtLe ts q h := by
  have h1 : 0 ≤ pl.sum := sum_pos fun x m => by
    obtain ⟨t, ht, rfl⟩ := getD_mem m
    exact (hp.2.1 t (by rw [← hp.1]; exact ht)).1
  exact exists_tight ho pl.sum.toNat pl (by omega) hp hh
/-! things that are all in pairs -/
def Clq (ts : List (Int × Int)) (ps : List (Nat × Nat)) (c : List Nat) : Prop := (∀ t ∈ c, t < ts.length) ∧ c.Pairwise fun t u => t ≠ u ∧ inP ps t u = true
def szs (ts : List (Int × Int)) (c : List Nat) : Int := (c.map fun t => (thG ts t).1).sum
theorem clq_le (ho : okT ts) {pl : List Int} {h : Int} {c : List Nat} (hp : Pl ts ps pl) (hh : HtLe ts pl h) (hc : Clq ts ps c) : szs ts c ≤ h := by
  have := ap_sum h.toNat (l := c.map fun t => (pl.getD t 0, (thG ts t).1)) (fun x m => by
    obtain ⟨t, mt, rfl⟩ := List.mem_map.mp m
    have ht := hc.1 t mt
    have h1 := hp.2.1 t ht
    have h2 := okT_th ho ht
    have h3 := hh.2 t ht
    have h4 := hh.1
    refine ⟨h1.1, by simp only; omega, .inr ?_⟩
    simp only
    omega) (by
    rw [List.pairwise_map]
    have hc2 := hc.2
    have hb : c.Pairwise fun t u => t < ts.length ∧ u < ts.length := List.pairwise_iff_forall_sublist.mpr fun {a b} s => ⟨hc.1 a (s.subset (by simp)), hc.1 b (s.subset (by simp))⟩
    refine (hc2.and hb).imp fun {t u} z => ?_
    have g := lieO_false.mp (hp.2.2 t u z.2.1 z.2.2 z.1.1 z.1.2)
    unfold apR
    simp only
    omega)
  rw [List.map_map] at this
  have h4 := hh.1
  unfold szs
  have e : (c.map fun t => (thG ts t).1) = c.map ((fun x : Int × Int => x.2) ∘ fun t => (pl.getD t 0, (thG ts t).1)) := rfl
  rw [e]
  omega
/-! a tight placing comes by its own order -/
def isSrt (pl : List Int) (od : List Nat) : Prop := od.Pairwise fun u t => ltK2 pl u t
theorem ltK2_irrefl {pl : List Int} {t : Nat} : ¬ ltK2 pl t t := by unfold ltK2; omega
theorem placed_tight (ho : okT ts) {pl : List Int} {od : List Nat} (ht : Tight ts ps pl) (hod : okO ts.length od) (hall : ∀ t, t < ts.length → t ∈ od) (hs : isSrt pl od) : placedG ts ps od = pl := by
  have key : ∀ (i : Nat), ∀ j, j < i → ∀ t, od[j]? = some t → (placedG ts ps od).getD t 0 = pl.getD t 0 := by
    intro i
    induction i with
    | zero => intro j hj; omega
    | succ i ih =>
      intro j hj t e
      by_cases hji : j < i
      · exact ih j hji t e
      · have hji : j = i := by omega
        subst hji
        have fix := (buildG_fix (f := placeF ts ps) placeF_congr (r := od) (pre := []) (l := List.replicate ts.length 0) (by simpa using hod.1) (fun t m => by simpa using hod.2 t m)).2 j t e
        have fix : (placedG ts ps od).getD t 0 = placeF ts ps (placedG ts ps od) (od.take j) t := by simpa [placedG] using fix
        have htl := hod.2 t (List.mem_of_getElem? e)
        rw [fix, ht.2 t htl]
        show lstF ts (placedG ts ps od) ((od.take j).filter (inP ps t)) t = _
        have tk : ∀ u, u ∈ od.take j ↔ u < ts.length ∧ ltK2 pl u t := fun u => by
          obtain ⟨hj2, ej⟩ := List.getElem?_eq_some_iff.mp e
          constructor
          · intro m
            refine ⟨hod.2 u (List.mem_of_mem_take m), ?_⟩
            have hd := drop_at e
            have e2 : od = od.take j ++ t :: od.drop (j + 1) := by rw [← hd, List.take_append_drop]
            unfold isSrt at hs
            rw [e2] at hs
            exact (List.pairwise_append.mp hs).2.2 u m t List.mem_cons_self
          · rintro ⟨hu, hk⟩
            have hd := drop_at e
            have e2 : od = od.take j ++ t :: od.drop (j + 1) := by rw [← hd, List.take_append_drop]
            have mu := hall u hu
            rw [e2] at mu
            rcases List.mem_append.mp mu with m | m
            · exact m
            · unfold isSrt at hs
              rw [e2] at hs
              rcases List.mem_cons.mp m with m | m
              · subst m
                exact (ltK2_irrefl hk).elim
              · have := (List.pairwise_cons.mp (List.pairwise_append.mp hs).2.1).1 u m
                unfold ltK2 at this hk
                omega
        refine lstF_congr ho htl (fun u mu => ((tk u).mp (List.mem_filter.mp mu).1).1) (fun u => ?_) fun u mu => ?_
        · rw [List.mem_filter, ahd_mem, tk u]
          exact ⟨fun h => ⟨h.1.1, h.2, h.1.2⟩, fun h => ⟨⟨h.1, h.2.2⟩, h.2.1⟩⟩
        · obtain ⟨k, ek⟩ := List.mem_iff_getElem?.mp (List.mem_filter.mp mu).1
          have hk : k < j := by
            have := (List.getElem?_eq_some_iff.mp ek).1
            rw [List.length_take] at this
            omega
          rw [List.getElem?_take_of_lt hk] at ek
          exact ih k hk u ek
  apply List.ext_getElem?
  intro t
  by_cases h : t < ts.length
  · obtain ⟨i, e⟩ := at_od (hall t h)
    have := key (i + 1) i (by omega) t e
    have l1 : t < (placedG ts ps od).length := by rw [placedG_len]; exact h
    have l2 : t < pl.length := by rw [ht.1.1]; exact h
    rw [List.getD_eq_getElem?_getD, List.getD_eq_getElem?_getD, List.getElem?_eq_getElem l1, List.getElem?_eq_getElem l2] at this
    rw [List.getElem?_eq_getElem l1, List.getElem?_eq_getElem l2]
    simpa using this
  · rw [List.getElem?_eq_none (by rw [placedG_len]; omega), List.getElem?_eq_none (by rw [ht.1.1]; omega)]
def leK (pl : List Int) (u t : Nat) : Bool := decide (pl.getD u 0 < pl.getD t 0) || decide (pl.getD u 0 = pl.getD t 0 ∧ u ≤ t)
theorem srt_ex {pl : List Int} (n : Nat) : ∃ od : List Nat, od.Perm (List.range n) ∧ isSrt pl od := by
  refine ⟨(List.range n).mergeSort (leK pl), List.mergeSort_perm _ _, ?_⟩
  have h1 : ((List.range n).mergeSort (leK pl)).Pairwise fun a b => leK pl a b = true := List.pairwise_mergeSort (le := leK pl) (fun a b c h1 h2 => by
    simp only [leK, Bool.or_eq_true, decide_eq_true_eq] at h1 h2 ⊢
    omega) (fun a b => by
    simp only [leK, Bool.or_eq_true, decide_eq_true_eq]
    omega) (List.range n)
  have h2 : ((List.range n).mergeSort (leK pl)).Nodup := (List.mergeSort_perm (List.range n) (leK pl)).nodup_iff.mpr List.nodup_range
  unfold isSrt
  refine (h1.and h2).imp fun {a b} z => ?_
  have := z.1
  have hne := z.2
  simp only [leK, Bool.or_eq_true, decide_eq_true_eq] at this
  unfold ltK2
  omega
theorem placed_pl (ho : okT ts) {od : List Nat} (hod : okO ts.length od) (hall : ∀ t, t < ts.length → t ∈ od) : Pl ts ps (placedG ts ps od) := by
  refine ⟨placedG_len, fun t ht => ?_, fun t u ht hu hne hin => ?_⟩
  · obtain ⟨i, e⟩ := at_od (hall t ht)
    have := place_at (ps := ps) ho hod e
    exact ⟨this.1, this.2.1⟩
  · obtain ⟨i, e1⟩ := at_od (hall t ht)
    obtain ⟨j, e2⟩ := at_od (hall u hu)
    have hij : i ≠ j := fun e => by
      subst e
      rw [e1] at e2
      exact hne (Option.some.inj e2)
    rcases Nat.lt_or_ge i j with h | h
    · have := lieO_false.mp ((place_at (ps := ps) ho hod e2).2.2.1 t (in_take e1 h) (by rw [inP_comm]; exact hin))
      exact lieO_false.mpr (by omega)
    · exact (place_at (ps := ps) ho hod e1).2.2.1 u (in_take e2 (by omega)) hin
end
end FM
namespace FM
open PySem PySem.Spec L2 PyProof.Rows
theorem cut_fr {α : Type} {xs : List α} {k : Nat} : cut xs (some (k : Int)) none = xs.drop k := by
  unfold cut
  rw [HT.sIx_nat, HT.sIx_none]
  by_cases h : k ≤ xs.length
  · rw [Nat.min_eq_left h]
    exact List.take_of_length_le (by simp)
  · rw [Nat.min_eq_right (by omega), List.drop_eq_nil_of_le (Nat.le_refl _), List.drop_eq_nil_of_le (by omega)]
    simp
theorem get_erase_perm {α : Type} : ∀ {l : List α} {k : Nat} (h : k < l.length), (l[k] :: l.eraseIdx k).Perm l
  | x :: l, 0, _ => .refl _
  | x :: l, k + 1, h => by
    have hk : k < l.length := by simpa using h
    have ih := get_erase_perm (l := l) (k := k) hk
    exact (List.Perm.swap x l[k] (l.eraseIdx k)).trans (ih.cons x)
/-! ### all orders -/
def fctN : Nat → Nat
  | 0 => 1
  | n + 1 => (n + 1) * fctN n
theorem fctN_le : ∀ k, k ≤ 7 → fctN k ≤ 5040 := by
  intro k hk
  match k, hk with
  | 0, _ | 1, _ | 2, _ | 3, _ | 4, _ | 5, _ | 6, _ | 7, _ => decide
def permsG : Nat → List Nat → List (List Nat)
  | 0, _ => []
  | _ + 1, [] => [[]]
  | n + 1, x :: r => ((List.range (x :: r).length).map fun k => (permsG n ((x :: r).eraseIdx k)).map ((x :: r).getD k 0 :: ·)).flatten
def partG (n : Nat) (xs : List Nat) (i : Nat) : List (List Nat) := ((List.range i).map fun k => (permsG n (xs.eraseIdx k)).map (xs.getD k 0 :: ·)).flatten
theorem partG_succ {n i : Nat} {xs : List Nat} : partG n xs (i + 1) = partG n xs i ++ (permsG n (xs.eraseIdx i)).map (xs.getD i 0 :: ·) := by
  unfold partG
  rw [List.range_succ, List.map_append, List.flatten_append]
  simp
theorem permsG_len : ∀ (n : Nat) (xs : List Nat), xs.length < n → (permsG n xs).length = fctN xs.length
  | 0, _, h => by omega
  | n + 1, [], _ => rfl
  | n + 1, x :: r, h => by
    have hp : ∀ i, i ≤ (x :: r).length → (partG n (x :: r) i).length = i * fctN r.length := by
      intro i
      induction i with
      | zero => intro _; simp [partG]
      | succ i ih =>
        intro hi
        have e : ((x :: r).eraseIdx i).length = r.length := by
          rw [List.length_eraseIdx]
          simp only [List.length_cons] at hi ⊢
          split <;> omega
        rw [partG_succ, List.length_append, ih (by omega), List.length_map, permsG_len n _ (by rw [e]; simp at h; omega), e, Nat.succ_mul]
    show (partG n (x :: r) (x :: r).length).length = _
    rw [hp _ (Nat.le_refl _)]
    rfl
theorem partG_len {n i : Nat} {xs : List Nat} (h : xs.length ≤ n) (hi : i ≤ xs.length) : (partG n xs i).length ≤ fctN xs.length := by
  have hp : ∀ i, i ≤ xs.length → (partG n xs i).length = i * fctN (xs.length - 1) := by
    intro i
    induction i with
    | zero => intro _; simp [partG]
    | succ i ih =>
      intro hi
      have e : (xs.eraseIdx i).length = xs.length - 1 := by
        rw [List.length_eraseIdx]
        split <;> omega
      rw [partG_succ, List.length_append, ih (by omega), List.length_map, permsG_len n _ (by rw [e]; omega), e, Nat.succ_mul]
  rw [hp i hi]
  cases hx : xs.length with
  | zero => rw [hx] at hi; simp at hi; subst hi; simp [fctN]
  | succ k =>
    rw [hx] at hi
    show i * fctN k ≤ (k + 1) * fctN k
    exact Nat.mul_le_mul_right _ hi
theorem permsG_mem : ∀ (n : Nat) (xs l : List Nat), xs.length < n → (l ∈ permsG n xs ↔ l.Perm xs)
  | 0, _, _, h => by omega
  | n + 1, [], l, _ => by
    show l ∈ [[]] ↔ _
    rw [List.mem_singleton, List.perm_nil]
  | n + 1, x :: r, l, h => by
    show l ∈ ((List.range (x :: r).length).map fun k => (permsG n ((x :: r).eraseIdx k)).map ((x :: r).getD k 0 :: ·)).flatten ↔ _
    have el : ∀ k, k < (x :: r).length → ((x :: r).eraseIdx k).length < n := fun k hk => by
      rw [List.length_eraseIdx, if_pos hk]
      simp at h ⊢
      omega
    rw [List.mem_flatten]
    constructor
    · rintro ⟨z, mz, ml⟩
      obtain ⟨k, mk, rfl⟩ := List.mem_map.mp mz
      have hk := List.mem_range.mp mk
      obtain ⟨s, ms, rfl⟩ := List.mem_map.mp ml
      have hs := (permsG_mem n _ s (el k hk)).mp ms
      have e : (x :: r).getD k 0 = (x :: r)[k] := by rw [List.getD_eq_getElem?_getD, List.getElem?_eq_getElem hk]; rfl
      rw [e]
      exact (hs.cons _).trans (get_erase_perm hk)
    · intro hp
      cases l with
      | nil => exact absurd hp.length_eq (by simp)
      | cons a s =>
        obtain ⟨k, hk, e⟩ := List.mem_iff_getElem.mp (hp.mem_iff.mp List.mem_cons_self)
        refine ⟨_, List.mem_map.mpr ⟨k, List.mem_range.mpr hk, rfl⟩, List.mem_map.mpr ⟨s, ?_, ?_⟩⟩
        · refine (permsG_mem n _ s (el k hk)).mpr ?_
          have h2 := get_erase_perm hk
          rw [e] at h2
          exact (hp.trans h2.symm).cons_inv
        · rw [List.getD_eq_getElem?_getD, List.getElem?_eq_getElem hk]
          simp [e]
def natsD (l : List Nat) : PD := .list (l.map natD)
theorem shaped_nats (l : List Nat) : SeqAt.shaped (.list (l.map natD)) = true := by
  have e : l.map natD = (l.map fun t : Nat => (t : Int)).map .int := by rw [List.map_map]; rfl
  rw [e]
  exact shaped_ints _
theorem q_orders : ∀ (n : Nat) (xs : List Nat), xs.length < n → xs.length ≤ 7 → qOf (grp__law_orders n 0) [.list (xs.map natD)] = some (.list ((permsG n xs).map natsD)) := by
  intro n
  induction n with
  | zero => intro xs h; omega
  | succ n ih =>
    intro xs h h7
    apply qof_of
    show wF (defN 4 [false] (m__law_orders (grp__law_orders n 0)) _) _
    unfold m__law_orders
    have hlen : xs.length ≤ 16777216 := by omega
    rw [wF_defN, wS_seq]
    have e0 := oEq_nil (shaped_nats xs)
    cases xs with
    | nil =>
      simp only [List.map_nil, List.isEmpty_nil] at e0
      simp [sizeLine, e0, permsG, natsD]
    | cons x r =>
      generalize hx : x :: r = xs at *
      have hne : xs.isEmpty = false := by rw [← hx]; rfl
      rw [show (List.map natD xs).isEmpty = false by rw [← hx]; rfl] at e0
      simp [sizeLine, e0]
      rw [wS_seq]
      simp [sizeLine]
      rw [wS_seq]
      simp
      refine wS_forI (fun i ρ => ∃ (x2 x3 x4 : O), ρ = [.fz (.list (xs.map natD)), .fz (.list ((partG n xs i).map natsD)), x2, x3, x4]) ⟨_, _, _, rfl⟩ ?_ ?_
      · rintro i y ρ ey ⟨x2, x3, x4, rfl⟩
        obtain ⟨d, ed, rfl⟩ := enumGo_at ey
        rw [List.getElem?_map] at ed
        obtain ⟨t, et, rfl⟩ := Option.map_eq_some_iff.mp ed
        have hi : i < xs.length := (List.getElem?_eq_some_iff.mp et).1
        have hc1 : cut (xs.map natD) none (some (i : Int)) = (xs.take i).map natD := by rw [cut_take, List.map_take]
        have hc2 : cut (xs.map natD) (some ((i : Int) + 1)) none = (xs.drop (i + 1)).map natD := by
          rw [show ((i : Int) + 1) = ((i + 1 : Nat) : Int) by omega, cut_fr, List.map_drop]
        have her : (xs.take i).map natD ++ (xs.drop (i + 1)).map natD = (xs.eraseIdx i).map natD := by
          rw [← List.map_append, List.eraseIdx_eq_take_drop_succ]
        have hel : (xs.eraseIdx i).length = xs.length - 1 := by rw [List.length_eraseIdx, if_pos hi]
        have hq := ih (xs.eraseIdx i) (by omega) (by omega)
        have hpl := permsG_len n (xs.eraseIdx i) (by omega)
        have hp7 : (permsG n (xs.eraseIdx i)).length ≤ 5040 := by rw [hpl]; exact fctN_le _ (by omega)
        have hpp : (partG n xs i).length ≤ 5040 := Nat.le_trans (partG_len (by omega) (by omega)) (fctN_le _ h7)
        have gt : xs.getD i 0 = t := by rw [List.getD_eq_getElem?_getD, et]; rfl
        refine ⟨_, rfl, ?_⟩
        have ha : ((xs.take i).map natD).length + ((xs.drop (i + 1)).map natD).length ≤ 16777216 := by simp; omega
        have l1 : ∀ (x1 : O) (ll : List (List Nat)), (∀ l ∈ ll, l.length ≤ 7) → lcGo (fName 4) qYes (qOp oAdd (qFz (qLst (qCons (qVar 3) qNil))) (qVar 4)) [.fz (.list (xs.map natD)), x1, .fz (.int (i : Int)), .fz (natD t), .dead] (ll.map natsD) = some ((ll.map (t :: ·)).map natsD) := fun x1 ll hll => by
          have h := lcGo_map (f := fName 4) (e := qOp oAdd (qFz (qLst (qCons (qVar 3) qNil))) (qVar 4)) (ρ := [.fz (.list (xs.map natD)), x1, .fz (.int (i : Int)), .fz (natD t), .dead]) (h := fun z => match z with | .list ds => .list (natD t :: ds) | d => d) (xs := ll.map natsD) fun z m => by
            obtain ⟨l, ml, rfl⟩ := List.mem_map.mp m
            have := hll l ml
            refine ⟨_, rfl, ?_⟩
            have hz : 1 + l.length ≤ 16777216 := by omega
            simp [natsD, natD, sizeLine, hz]
          rw [h, List.map_map, List.map_map]
          rfl
        have l2 := fun x1 => l1 x1 (permsG n (xs.eraseIdx i)) fun l ml => by
          have := ((permsG_mem n _ l (by omega)).mp ml).length_eq
          omega
        have hs : partG n xs (i + 1) = partG n xs i ++ (permsG n (xs.eraseIdx i)).map (t :: ·) := by rw [partG_succ, gt]
        rw [hs]
        generalize permsG n (xs.eraseIdx i) = pp at hq hp7 l2
        generalize partG n xs i = qq at hpp
        have hp8 : pp.length ≤ 16777216 := by omega
        have hp9 : qq.length + pp.length ≤ 16777216 := by omega
        have ha2 : min i xs.length + (xs.length - (i + 1)) ≤ 16777216 := by omega
        simp only [pairD, Nat.zero_add]
        simp [hc1, hc2, sizeLine, ha2, qCall]
        simp only [List.map_take, List.map_drop] at her
        simp [her, hq, hp8, l2, hp9, sizeLine]
      · rintro ρ ⟨x2, x3, x4, rfl⟩
        simp
        rw [enum_len, List.length_map]
        rw [← hx]
        rfl
/-! ### the height -/
def hgtG (ts : List (Int × Int)) (pl : List Int) : Int := maxI (0 :: List.zipWith (fun (p : Int) (t : Int × Int) => p + t.1) pl ts)
theorem hgtG_is {ts : List (Int × Int)} {pl : List Int} (hl : pl.length = ts.length) : HtLe ts pl (hgtG ts pl) ∧ ∀ h, HtLe ts pl h → hgtG ts pl ≤ h := by
  obtain ⟨a1, a2⟩ := maxI_is (ns := 0 :: List.zipWith (fun (p : Int) (t : Int × Int) => p + t.1) pl ts) (by simp)
  refine ⟨⟨a2 0 List.mem_cons_self, fun t ht => a2 _ (List.mem_cons_of_mem _ ?_)⟩, fun h hh => ?_⟩
  · refine List.mem_iff_getElem.mpr ⟨t, by simp; omega, ?_⟩
    have h1 : t < pl.length := by omega
    simp [thG, h1, ht]
  · unfold hgtG
    rcases List.mem_cons.mp a1 with e | m
    · rw [e]; exact hh.1
    · obtain ⟨t, ht, e⟩ := List.mem_iff_getElem.mp m
      rw [← e]
      simp at ht
      have := hh.2 t (by omega)
      have h1 : t < pl.length := by omega
      have h2 : t < ts.length := by omega
      simp [thG, h1, h2] at this ⊢
      exact this
theorem q_lawheight {ts : List (Int × Int)} {pl : List Int} (hl : ts.length ≤ 1000) (he : pl.length = ts.length) : qOf f__law_height [.tuple (ts.map thD), .list (pl.map .int)] = some (.int (hgtG ts pl)) := by
  apply qof_of
  unfold f__law_height m__law_height
  have l1 : lcGo (fTup 2 (fCons (fName 2) (fCons (fName 3) fNil))) qYes (qOp oAdd (qVar 2) (qOp oIx (qVar 3) (qC (.int 0)))) [.fz (.tuple (ts.map thD)), .fz (.list (pl.map .int)), .dead, .dead] (zipD (pl.map .int) (ts.map thD)) = some ((List.zipWith (fun (p : Int) (t : Int × Int) => p + t.1) pl ts).map .int) := by
    have h := lcGo_map (f := fTup 2 (fCons (fName 2) (fCons (fName 3) fNil))) (e := qOp oAdd (qVar 2) (qOp oIx (qVar 3) (qC (.int 0)))) (ρ := [.fz (.tuple (ts.map thD)), .fz (.list (pl.map .int)), .dead, .dead]) (h := fun z => match z with | .tuple [.int p, .tuple [.int s, _]] => .int (p + s) | d => d) (xs := zipD (pl.map .int) (ts.map thD)) fun z m => by
      obtain ⟨i, hi, rfl⟩ := List.mem_iff_getElem.mp m
      obtain ⟨h1, h2, h3⟩ := zip_at hi
      rw [h3, List.getElem_map, List.getElem_map]
      refine ⟨_, rfl, ?_⟩
      simp [thD, pairD]
    rw [h]
    unfold zipD
    rw [List.map_zipWith, List.map_zipWith, List.zipWith_map]
    rfl
  have hz : (zipD (pl.map PyData.int) (ts.map thD)).length ≤ 16777216 := by simp [zipD]; omega
  have hz2 : 1 + (List.zipWith (fun (p : Int) (t : Int × Int) => p + t.1) pl ts).length ≤ 16777216 := by simp; omega
  have hm : oMax1 [.fz (.list (.int 0 :: (List.zipWith (fun (p : Int) (t : Int × Int) => p + t.1) pl ts).map .int))] = some (.fz (.int (hgtG ts pl))) := oMax1_l (l := 0 :: List.zipWith (fun (p : Int) (t : Int × Int) => p + t.1) pl ts) (by simp)
  generalize hzz : zipD (pl.map PyData.int) (ts.map thD) = zz at l1 hz
  generalize List.zipWith (fun (p : Int) (t : Int × Int) => p + t.1) pl ts = es at l1 hm hz2
  simp [hzz, sizeLine, hz, l1, hz2, hm]
/-! ### the least height -/
def isL (ts : List (Int × Int)) (ps : List (Nat × Nat)) (L : Int) : Prop := (∃ pl, Pl ts ps pl ∧ HtLe ts pl L) ∧ ∀ pl h, Pl ts ps pl → HtLe ts pl h → L ≤ h
theorem isL_uniq {ts : List (Int × Int)} {ps : List (Nat × Nat)} {L M : Int} (a : isL ts ps L) (b : isL ts ps M) : L = M := by
  obtain ⟨⟨p, p1, p2⟩, a2⟩ := a
  obtain ⟨⟨q, q1, q2⟩, b2⟩ := b
  have h1 := a2 q M q1 q2
  have h2 := b2 p L p1 p2
  omega
theorem oMin1_i {l : List Int} (h : l ≠ []) : oMin1 [.fz (.list (l.map .int))] = some (.fz (.int (minI l))) := by
  have e : intsD (l.map PyData.int) = some l := intsD_map l
  simp [oMin1, oInts, seqL, e, h]
theorem q_lawleast {ts : List (Int × Int)} {ps : List (Nat × Nat)} (ho : okT ts) (ht : ts.length ≤ 7) (hp : okP ts.length ps) : ∃ L, isL ts ps L ∧ qOf f__law_least [.tuple (ts.map thD), .list (ps.map prD)] = some (.int L) := by
  have hperm : ∀ od ∈ permsG 45 (List.range ts.length), okO ts.length od ∧ od.length ≤ 7 ∧ ∀ t, t < ts.length → t ∈ od := fun od m => by
    have p := (permsG_mem 45 (List.range ts.length) od (by simp; omega)).mp m
    refine ⟨⟨p.nodup_iff.mpr List.nodup_range, fun t mt => ?_⟩, by have := p.length_eq; simp at this; omega, fun t h => p.mem_iff.mpr (List.mem_range.mpr h)⟩
    exact List.mem_range.mp (p.mem_iff.mp mt)
  have hne : permsG 45 (List.range ts.length) ≠ [] := fun e => by
    have := (permsG_mem 45 (List.range ts.length) (List.range ts.length) (by simp; omega)).mpr (List.Perm.refl _)
    rw [e] at this
    cases this
  have hl := permsG_len 45 (List.range ts.length) (by simp; omega)
  have hl2 : (permsG 45 (List.range ts.length)).length ≤ 16777216 := by
    rw [hl]
    have := fctN_le (List.range ts.length).length (by simp; omega)
    omega
  have hq := q_orders 45 (List.range ts.length) (by simp; omega) (by simp; omega)
  refine ⟨minI ((permsG 45 (List.range ts.length)).map fun od => hgtG ts (placedG ts ps od)), ?_, ?_⟩
  · obtain ⟨m1, m2⟩ := minI_is (ns := (permsG 45 (List.range ts.length)).map fun od => hgtG ts (placedG ts ps od)) (by simpa using hne)
    refine ⟨?_, fun pl h hpl hh => ?_⟩
    · obtain ⟨od, mo, e⟩ := List.mem_map.mp m1
      obtain ⟨o1, o2, o3⟩ := hperm od mo
      rw [← e]
      exact ⟨_, placed_pl ho o1 o3, (hgtG_is placedG_len).1⟩
    · obtain ⟨q, tq, hq⟩ := tight_of ho hpl hh
      obtain ⟨od, o1, o2⟩ := srt_ex (pl := q) ts.length
      have mo := (permsG_mem 45 (List.range ts.length) od (by simp; omega)).mpr o1
      obtain ⟨o3, o4, o5⟩ := hperm od mo
      have e := placed_tight (ps := ps) ho tq o3 o5 o2
      have h1 := m2 _ (List.mem_map.mpr ⟨od, mo, rfl⟩)
      rw [e] at h1
      have h2 := (hgtG_is tq.1.1).2 h hq
      omega
  · apply qof_of
    unfold f__law_least m__law_least
    rw [wF_defN, wS_seq]
    have hb : big62 (ts.length : Int) = true := big62_s (by omega) (by omega)
    have hrl : ts.length ≤ 16777216 := by omega
    have er : rngD 0 ts.length = (List.range ts.length).map natD := by
      unfold rngD
      apply List.map_congr_left
      intro j _
      simp [natD]
    have hq' : qOf f__law_orders [.list ((List.range ts.length).map natD)] = some (.list ((permsG 45 (List.range ts.length)).map natsD)) := hq
    have l1 : lcGo (fName 3) qYes (qCall (qOf f__law_height) (qCons (qVar 0) (qCons (qCall (qOf f__law_put) (qCons (qVar 0) (qCons (qVar 1) (qCons (qVar 3) qNil)))) qNil))) [.fz (.tuple (ts.map thD)), .fz (.list (ps.map prD)), .fz (.list ((permsG 45 (List.range ts.length)).map natsD)), .dead] ((permsG 45 (List.range ts.length)).map natsD) = some (((permsG 45 (List.range ts.length)).map fun od => hgtG ts (placedG ts ps od)).map .int) := by
      generalize hx2 : (O.fz (.list ((permsG 45 (List.range ts.length)).map natsD))) = x2
      have : ∀ (pp : List (List Nat)), (∀ od ∈ pp, okO ts.length od ∧ od.length ≤ 7 ∧ ∀ t, t < ts.length → t ∈ od) → lcGo (fName 3) qYes (qCall (qOf f__law_height) (qCons (qVar 0) (qCons (qCall (qOf f__law_put) (qCons (qVar 0) (qCons (qVar 1) (qCons (qVar 3) qNil)))) qNil))) [.fz (.tuple (ts.map thD)), .fz (.list (ps.map prD)), x2, .dead] (pp.map natsD) = some ((pp.map fun od => hgtG ts (placedG ts ps od)).map .int) := by
        intro pp
        induction pp with
        | nil => intro _; rfl
        | cons od pp ih =>
          intro h
          obtain ⟨o1, o2, o3⟩ := h od List.mem_cons_self
          have e1 := q_put ho (by omega) hp o1 (by omega) o3
          have e2 := q_lawheight (ts := ts) (pl := placedG ts ps od) (by omega) placedG_len
          have e3 := ih fun o m => h o (List.mem_cons_of_mem _ m)
          rw [List.map_cons, List.map_cons, List.map_cons]
          have ez : (qCall (qOf f__law_height) (qCons (qVar 0) (qCons (qCall (qOf f__law_put) (qCons (qVar 0) (qCons (qVar 1) (qCons (qVar 3) qNil)))) qNil))) [.fz (.tuple (ts.map thD)), .fz (.list (ps.map prD)), x2, .fz (natsD od)] = some (.fz (.int (hgtG ts (placedG ts ps od)))) := by
            simp [qCall, natsD, e1, e2]
          have ef : fName 3 (natsD od) [.fz (.tuple (ts.map thD)), .fz (.list (ps.map prD)), x2, .dead] = some [.fz (.tuple (ts.map thD)), .fz (.list (ps.map prD)), x2, .fz (natsD od)] := rfl
          unfold lcGo
          simp only [ef, qYes, ez, e3]
          rfl
      exact this _ hperm
    have hmin : oMin1 [.fz (.list (((permsG 45 (List.range ts.length)).map fun od => hgtG ts (placedG ts ps od)).map .int))] = _ := oMin1_i (by simpa using hne)
    generalize permsG 45 (List.range ts.length) = pp at *
    generalize (pp.map fun od => hgtG ts (placedG ts ps od)) = hs at *
    simp [hb, sizeLine, hrl, er, qCall, hq', hl2, l1, hmin]
end FM
namespace FM
open PySem PySem.Spec L2 PyProof.Rows
/-! ### the search: crowds -/
def mtO (mt : List (List Nat)) : O := .nst (mt.map fun l => .lst (l.map natD))
def okM (ts : List (Int × Int)) (ps : List (Nat × Nat)) (mt : List (List Nat)) : Prop := mt.length = ts.length ∧ ∀ t, t < ts.length → (mt.getD t []).length ≤ 100000 ∧ ∀ u, u ∈ mt.getD t [] ↔ (u < ts.length ∧ u ≠ t ∧ inP ps t u = true)
theorem mt_at {mt : List (List Nat)} {t : Nat} (h : t < mt.length) : atI (mt.map fun l => O.lst (l.map natD)) (t : Int) = some (.lst ((mt.getD t []).map natD)) := by
  rw [atI_nn (by omega), List.getElem?_map]
  simp [h]
theorem natsI (l : List Nat) : l.map natD = (l.map fun t : Nat => (t : Int)).map .int := by rw [List.map_map]; rfl
theorem oIn_natl {t : Nat} {l : List Nat} : oIn (.fz (.int (t : Int))) (.lst (l.map natD)) = some (.fz (.bool (decide (t ∈ l)))) := by
  rw [natsI, oIn_il]
  congr 3
  rw [Bool.eq_iff_iff, decide_eq_true_eq, decide_eq_true_eq, List.mem_map]
  constructor
  · rintro ⟨u, mu, e⟩
    have : u = t := by omega
    exact this ▸ mu
  · exact fun m => ⟨t, m, rfl⟩
section
variable {ts : List (Int × Int)} {ps : List (Nat × Nat)} {mt : List (List Nat)} {fs : List (Str × O)}
theorem clq_snoc {own : List Nat} {u : Nat} (h : Clq ts ps own) (hu : u < ts.length) (hm : okM ts ps mt) (ha : own.all (fun one => decide (one ∈ mt.getD u [])) = true) : Clq ts ps (own ++ [u]) := by
  refine ⟨fun t m => ?_, ?_⟩
  · rcases List.mem_append.mp m with m | m
    · exact h.1 t m
    · rw [List.mem_singleton.mp m]; exact hu
  · rw [List.pairwise_append]
    refine ⟨h.2, by simp, fun a ma b mb => ?_⟩
    rw [List.mem_singleton.mp mb]
    have := List.all_eq_true.mp ha a ma
    rw [decide_eq_true_eq] at this
    obtain ⟨_, h2, h3⟩ := ((hm.2 u hu).2 a).mp this
    exact ⟨h2, by rw [inP_comm]; exact h3⟩
theorem clq_len {c : List Nat} (h : Clq ts ps c) : c.length ≤ ts.length := by
  have h1 : c.Nodup := h.2.imp fun z => z.1
  have := len_le_sub (l := c) (r := List.range ts.length) h1 fun x m => List.mem_range.mpr (h.1 x m)
  simpa using this
theorem crowd_spec (h1 : fs.lookup ("things" : Str) = some (.fz (.tuple (ts.map thD)))) (h2 : fs.lookup ("mates" : Str) = some (mtO mt)) (h3 : fs.lookup ("crowd" : Str) = none) (hm : okM ts ps mt) (hn : ts.length ≤ 1000) :
    ∀ (m : Nat) (some_ : List Nat) (t : Nat) (Q : O → List O → Prop), Clq ts ps (some_ ++ [t]) → ts.length < t + m → (∀ c, Clq ts ps c → Q (.fz (.int (szs ts c))) [.ins 0 fs, .dead, .dead]) → wF (grp_Search_crowd m 0 [.ins 0 fs, .fz (.list (some_.map natD)), .fz (.int (t : Int))]) Q := by
  intro m
  induction m with
  | zero =>
    intro own t Q hc hlt _
    have := hc.1 t (by simp)
    omega
  | succ m ih =>
    intro some_ t Q hc hlt hQ
    show wF (defN 4 [true, false, false] (m_Search_crowd (grp_Search_crowd m 0)) _) Q
    unfold m_Search_crowd
    have hlen := clq_len hc
    rw [List.length_append] at hlen
    simp only [List.length_singleton] at hlen
    have hz : some_.length + 1 ≤ 16777216 := by omega
    have htl := hc.1 t (by simp)
    rw [wF_defN, wS_seq]
    simp [sizeLine, hz]
    rw [wS_seq]
    have eown : (some_.map natD ++ [.int (t : Int)]) = (some_ ++ [t]).map natD := by simp [natD]
    rw [eown]
    have hz2 : (some_ ++ [t]).length ≤ 16777216 := by simp; omega
    generalize some_ ++ [t] = own at hc hz2
    have e1 : qFld 0 0 "things" = fun ρ : List O => match qVar 0 ρ with
      | some (.ins c' fs) => if c' = 0 then match fs.lookup ("things" : Str) with
          | some .dead => none
          | r => r
        else none
      | _ => none := rfl
    have l1 : ∀ x4 x5 x6 : O, lcGo (fName 5) qYes (qOp oIx (qOp oIx (qFld 0 0 "things") (qVar 5)) (qC (.int 0))) [.ins 0 fs, .fz (.list (some_.map natD)), .fz (.int (t : Int)), .fz (.list (own.map natD)), x4, x5, x6] (own.map natD) = some ((own.map fun u => (thG ts u).1).map .int) := fun x4 x5 x6 => by
      have h := lcGo_map (f := fName 5) (e := qOp oIx (qOp oIx (qFld 0 0 "things") (qVar 5)) (qC (.int 0))) (ρ := [.ins 0 fs, .fz (.list (some_.map natD)), .fz (.int (t : Int)), .fz (.list (own.map natD)), x4, x5, x6]) (h := fun x => match x with | .int u => .int (thG ts u.toNat).1 | d => d) (xs := own.map natD) fun x mx => by
        obtain ⟨u, mu, rfl⟩ := List.mem_map.mp mx
        have e2 : atI (ts.map thD) (u : Int) = some (thD (thG ts u)) := at_th (ts := ts) (hc.1 u mu)
        refine ⟨_, rfl, ?_⟩
        simp only [natD, Int.toNat_natCast]
        generalize thG ts u = v at e2
        simp [h1, e2, thD]
      rw [h, List.map_map, List.map_map]
      rfl
    have hs : oSum [.fz (.list ((own.map fun u => (thG ts u).1).map .int))] = some (.fz (.int (szs ts own))) := by
      rw [List.map_map]
      exact oSum_map (g := fun u => (thG ts u).1) (xs := own)
    generalize hes : (own.map fun u => (thG ts u).1).map PyData.int = es at l1 hs
    simp [sizeLine, hz2, l1, hs]
    rw [wS_seq]
    have hb : big62 ((t : Int) + 1) = true := big62_s (by omega) (by omega)
    have hb2 : big62 (ts.length : Int) = true := big62_s (by omega) (by omega)
    simp [h1, hb, hb2]
    refine wS_forI (fun i ρ => ∃ (c : List Nat) (x5 x6 : O), ρ = [.ins 0 fs, .fz (.list (some_.map natD)), .fz (.int (t : Int)), .fz (.list (own.map natD)), .fz (.int (szs ts c)), x5, x6] ∧ Clq ts ps c) ⟨own, _, _, rfl, hc⟩ ?_ ?_
    · rintro i x ρ ex ⟨c, x5, x6, rfl, hcc⟩
      obtain ⟨rfl, hi⟩ := rngD_atL ex
      have hu : t + 1 + i < ts.length := by omega
      have eu : ((t : Int) + 1 + (i : Int)) = ((t + 1 + i : Nat) : Int) := by omega
      rw [eu]
      generalize hgu : t + 1 + i = u at hu
      have hmt := mt_at (mt := mt) (t := u) (by rw [hm.1]; exact hu)
      have l2 : ∀ x5 : O, lcGo (fName 5) qYes (qOp oIn (qVar 5) (qOp oIx (qFld 0 0 "mates") (qVar 6))) [.ins 0 fs, .fz (.list (some_.map natD)), .fz (.int (t : Int)), .fz (.list (own.map natD)), .fz (.int (szs ts c)), x5, .fz (.int (u : Int))] (own.map natD) = some (own.map fun one => .bool (decide (one ∈ mt.getD u []))) := fun x5 => by
        have h := lcGo_map (f := fName 5) (e := qOp oIn (qVar 5) (qOp oIx (qFld 0 0 "mates") (qVar 6))) (ρ := [.ins 0 fs, .fz (.list (some_.map natD)), .fz (.int (t : Int)), .fz (.list (own.map natD)), .fz (.int (szs ts c)), x5, .fz (.int (u : Int))]) (h := fun x => match x with | .int o => .bool (decide (o.toNat ∈ mt.getD u [])) | d => d) (xs := own.map natD) fun x mx => by
          obtain ⟨o, mo, rfl⟩ := List.mem_map.mp mx
          refine ⟨_, rfl, ?_⟩
          have := oIn_natl (t := o) (l := mt.getD u [])
          simp only [natD, Int.toNat_natCast] at this ⊢
          generalize mt.getD u [] = w at this hmt
          simp [h2, mtO, hmt, this]
        rw [h, List.map_map]
        rfl
      have ha : oAll [.fz (.list (own.map fun one => .bool (decide (one ∈ mt.getD u []))))] = some (.fz (.bool (own.all fun one => decide (one ∈ mt.getD u [])))) := oAll_map
      refine ⟨_, rfl, ?_⟩
      cases hall : own.all (fun one => decide (one ∈ mt.getD u [])) with
      | false =>
        rw [hall] at ha
        generalize (own.map fun one => PyData.bool (decide (one ∈ mt.getD u []))) = bl at l2 ha
        simp [-oAll_l, sizeLine, hz2, l2, ha]
        exact ⟨c, rfl, hcc⟩
      | true =>
        have hc2 := clq_snoc hc hu hm hall
        rw [hall] at ha
        generalize (own.map fun one => PyData.bool (decide (one ∈ mt.getD u []))) = bl at l2 ha
        simp [-oAll_l, -List.lookup_eq_none_iff, sizeLine, hz2, l2, ha, h3]
        refine ih own u _ hc2 (by omega) fun c2 hc2 => ?_
        simp
        by_cases g : szs ts c < szs ts c2
        · simp [g]
          exact ⟨c2, rfl, hc2⟩
        · simp [g]
          exact ⟨c, rfl, hcc⟩
    · rintro ρ ⟨c, x5, x6, rfl, hcc⟩
      simp
      exact hQ c hcc
end
end FM
namespace FM
open PySem PySem.Spec L2 PyProof.Rows
/-! ### the search: how it begins -/
def kT : Str := "things"
def kM : Str := "mates"
def kB : Str := "best"
def kP : Str := "best_places"
def kF : Str := "floor"
section
variable {a b c d e o : O} {r : List (Str × O)}
theorem pfQ {x y : Str} {o o1 : O} {t : List (Str × O)} (h : x ≠ y) : pfO y o ((x, o1) :: t) = (x, o1) :: pfO y o t := pfO_neg h
theorem luQ {x y : Str} {o : O} {t : List (Str × O)} (h : y ≠ x) : List.lookup x ((y, o) :: t) = List.lookup x t := lu_neg h
@[simp] theorem pf_t0 : pfO "things" o [] = [(kT, o)] := rfl
@[simp] theorem pf_m0 : pfO "mates" o [(kT, a)] = [(kT, a), (kM, o)] := by rw [pfQ (by decide)]; rfl
@[simp] theorem pf_m1 : pfO "mates" o [(kT, a), (kM, b)] = [(kT, a), (kM, o)] := by rw [pfQ (by decide)]; exact congrArg _ (pfO_pos rfl)
@[simp] theorem pf_b0 : pfO "best" o [(kT, a), (kM, b)] = [(kT, a), (kM, b), (kB, o)] := by rw [pfQ (by decide), pfQ (by decide)]; rfl
@[simp] theorem pf_p0 : pfO "best_places" o [(kT, a), (kM, b), (kB, c)] = [(kT, a), (kM, b), (kB, c), (kP, o)] := by rw [pfQ (by decide), pfQ (by decide), pfQ (by decide)]; rfl
@[simp] theorem pf_f0 : pfO "floor" o [(kT, a), (kM, b), (kB, c), (kP, d)] = [(kT, a), (kM, b), (kB, c), (kP, d), (kF, o)] := by rw [pfQ (by decide), pfQ (by decide), pfQ (by decide), pfQ (by decide)]; rfl
@[simp] theorem pf_b1 : pfO "best" o [(kT, a), (kM, b), (kB, c), (kP, d), (kF, e)] = [(kT, a), (kM, b), (kB, o), (kP, d), (kF, e)] := by rw [pfQ (by decide), pfQ (by decide)]; exact congrArg (fun z => (kT, a) :: (kM, b) :: z) (pfO_pos rfl)
@[simp] theorem pf_p1 : pfO "best_places" o [(kT, a), (kM, b), (kB, c), (kP, d), (kF, e)] = [(kT, a), (kM, b), (kB, c), (kP, o), (kF, e)] := by rw [pfQ (by decide), pfQ (by decide), pfQ (by decide)]; exact congrArg (fun z => (kT, a) :: (kM, b) :: (kB, c) :: z) (pfO_pos rfl)
@[simp] theorem lu_t : List.lookup ("things" : Str) ((kT, a) :: r) = some a := lu_pos rfl
@[simp] theorem lu_m : List.lookup ("mates" : Str) ((kT, a) :: (kM, b) :: r) = some b := by rw [luQ (by decide)]; exact lu_pos rfl
@[simp] theorem lu_b : List.lookup ("best" : Str) ((kT, a) :: (kM, b) :: (kB, c) :: r) = some c := by rw [luQ (by decide), luQ (by decide)]; exact lu_pos rfl
@[simp] theorem lu_p : List.lookup ("best_places" : Str) ((kT, a) :: (kM, b) :: (kB, c) :: (kP, d) :: r) = some d := by rw [luQ (by decide), luQ (by decide), luQ (by decide)]; exact lu_pos rfl
@[simp] theorem lu_f : List.lookup ("floor" : Str) ((kT, a) :: (kM, b) :: (kB, c) :: (kP, d) :: (kF, e) :: r) = some e := by rw [luQ (by decide), luQ (by decide), luQ (by decide), luQ (by decide)]; exact lu_pos rfl
theorem lu_c0 : List.lookup ("crowd" : Str) [(kT, a), (kM, b), (kB, c), (kP, d)] = none := by rw [luQ (by decide), luQ (by decide), luQ (by decide), luQ (by decide)]; rfl
theorem lu_g0 : List.lookup ("go_on" : Str) [(kT, a), (kM, b), (kB, c), (kP, d), (kF, e)] = none := by rw [luQ (by decide), luQ (by decide), luQ (by decide), luQ (by decide), luQ (by decide)]; rfl
end
def fsS (ts : List (Int × Int)) (mt : List (List Nat)) (b : PD) (bp : O) (fl : Int) : List (Str × O) := [(kT, .fz (.tuple (ts.map thD))), (kM, mtO mt), (kB, .fz b), (kP, bp), (kF, .fz (.int fl))]
/-- who is in a pair with whom, so far -/
def okMi (ts : List (Int × Int)) (qs : List (Nat × Nat)) (mt : List (List Nat)) : Prop := mt.length = ts.length ∧ ∀ t, t < ts.length → (mt.getD t []).length ≤ 2 * qs.length ∧ ∀ u, u ∈ mt.getD t [] ↔ ((t, u) ∈ qs ∨ (u, t) ∈ qs)
theorem getD_setL {l : List (List Nat)} {t u : Nat} {v : List Nat} (h : t < l.length) : (l.set t v).getD u [] = if t = u then v else l.getD u [] := by
  rw [List.getD_eq_getElem?_getD, List.getD_eq_getElem?_getD, List.getElem?_set]
  by_cases e : t = u
  · subst e
    simp [h]
  · simp [e]
def addM (mt : List (List Nat)) (t u : Nat) : List (List Nat) := mt.set t (mt.getD t [] ++ [u])
section
variable {ts : List (Int × Int)} {ps : List (Nat × Nat)} {mt : List (List Nat)}
theorem addM_ok {qs : List (Nat × Nat)} {t u : Nat} (h : okMi ts qs mt) (htu : t < u) (hu : u < ts.length) : okMi ts (qs ++ [(t, u)]) (addM (addM mt t u) u t) := by
  have l1 : t < mt.length := by rw [h.1]; omega
  have l2 : u < (addM mt t u).length := by unfold addM; rw [List.length_set, h.1]; exact hu
  refine ⟨by unfold addM; rw [List.length_set, List.length_set]; exact h.1, fun x hx => ?_⟩
  obtain ⟨h1, h2⟩ := h.2 x hx
  have e : (addM (addM mt t u) u t).getD x [] = if x = u then mt.getD u [] ++ [t] else if x = t then mt.getD t [] ++ [u] else mt.getD x [] := by
    unfold addM
    rw [getD_setL (by rw [List.length_set, h.1]; exact hu), getD_setL l1, getD_setL l1]
    by_cases c1 : x = u
    · subst c1
      have : ¬ t = x := by omega
      simp [this]
    · have c1' : ¬ u = x := fun z => c1 z.symm
      by_cases c2 : x = t
      · subst c2
        simp [c1, c1']
      · have c2' : ¬ t = x := fun z => c2 z.symm
        simp [c1, c1', c2, c2']
  rw [e]
  by_cases c1 : x = u
  · subst c1
    rw [if_pos rfl]
    refine ⟨by simp only [List.length_append, List.length_singleton]; omega, fun y => ?_⟩
    rw [List.mem_append, List.mem_singleton, h2]
    simp only [List.mem_append, List.mem_singleton, Prod.mk.injEq]
    have : ∀ z : Nat, ¬ (x = t ∧ z = x) := fun z w => by omega
    constructor
    · rintro ((z | z) | z)
      · exact .inl (.inl z)
      · exact .inr (.inl z)
      · exact .inr (.inr ⟨z, trivial⟩)
    · rintro ((z | z) | (z | z))
      · exact .inl (.inl z)
      · omega
      · exact .inl (.inr z)
      · exact .inr z.1
  · rw [if_neg c1]
    by_cases c2 : x = t
    · subst c2
      rw [if_pos rfl]
      refine ⟨by simp only [List.length_append, List.length_singleton]; omega, fun y => ?_⟩
      rw [List.mem_append, List.mem_singleton, h2]
      simp only [List.mem_append, List.mem_singleton, Prod.mk.injEq]
      constructor
      · rintro ((z | z) | z)
        · exact .inl (.inl z)
        · exact .inr (.inl z)
        · exact .inl (.inr ⟨trivial, z⟩)
      · rintro ((z | z) | (z | z))
        · exact .inl (.inl z)
        · exact .inr z.2
        · exact .inl (.inr z)
        · omega
    · rw [if_neg c2]
      refine ⟨by simp only [List.length_append, List.length_singleton]; omega, fun y => ?_⟩
      rw [h2]
      simp only [List.mem_append, List.mem_singleton, Prod.mk.injEq]
      constructor
      · rintro (z | z)
        · exact .inl (.inl z)
        · exact .inr (.inl z)
      · rintro ((z | z) | (z | z))
        · exact .inl z
        · omega
        · exact .inr z
        · omega
theorem okMi_ok (hp : okP ts.length ps) (hs : ps.length ≤ 50000) (h : okMi ts ps mt) : okM ts ps mt := by
  refine ⟨h.1, fun t ht => ?_⟩
  obtain ⟨h1, h2⟩ := h.2 t ht
  refine ⟨by omega, fun u => ?_⟩
  rw [h2]
  unfold inP
  rw [decide_eq_true_eq]
  constructor
  · rintro (m | m)
    · have g := hp _ m
      simp only at g
      refine ⟨g.2, by omega, ?_⟩
      rw [show min t u = t by omega, show max t u = u by omega]
      exact m
    · have g := hp _ m
      simp only at g
      refine ⟨by omega, by omega, ?_⟩
      rw [show min t u = u by omega, show max t u = t by omega]
      exact m
  · rintro ⟨hu, hne, m⟩
    rcases Nat.lt_or_ge t u with z | z
    · rw [show min t u = t by omega, show max t u = u by omega] at m
      exact .inl m
    · rw [show min t u = u by omega, show max t u = t by omega] at m
      exact .inr m
theorem lcN_new {f : QG} {ρ : List O} {vs : List Nat} (hf : ∀ x, ∃ ρ1, f x ρ = some ρ1 ∧ wipeO ρ1 vs = ρ) : ∀ (xs : List PD) (acc : List O), acc.length + xs.length ≤ 16777216 → lcGoN f bYes (mNew (qLst qNil)) vs xs acc ρ = .ok (acc ++ List.replicate xs.length (.lst [])) ρ
  | [], acc, _ => by
    show R.ok acc ρ = _
    simp
  | x :: xs, acc, h => by
    simp only [List.length_cons] at h
    obtain ⟨ρ1, e1, e2⟩ := hf x
    have ih := lcN_new hf xs (acc ++ [.lst []]) (by rw [List.length_append]; simp; omega)
    have hl : acc.length < sizeLine := by unfold sizeLine; omega
    have em : mNew (qLst qNil) ρ1 = .ok (.lst []) ρ1 := rfl
    unfold lcGoN
    simp only [e1, bYes, em, hl, if_true, e2]
    rw [ih]
    simp [List.replicate_succ]
theorem wM_lcNew {mi : M (List PD)} {f : QG} {c : M Bool} {e : M O} {vs : List Nat} {ρ ρ1 ρ2 : List O} {ds : List PD} {acc : List O} {Q : O → List O → Prop} (h1 : mi ρ = .ok ds ρ1) (h2 : lcGoN f c e vs ds [] (wipeO ρ1 vs) = .ok acc ρ2) (g : Q (.nst acc) ρ2) : wM (mLcN mi f c e vs ρ) Q := by
  unfold mLcN
  simp only [h1, h2]
  exact g
theorem mt_set {l : List Nat} {t : Nat} : (mt.map fun l => O.lst (l.map natD)).set t (.lst (l.map natD)) = (mt.set t l).map fun l => O.lst (l.map natD) := by rw [List.map_set]
theorem add_step {ρ' : List O} {a : O} {i j t u : Nat} {Q : O → List O → Prop} (h : t < mt.length) (hl : (mt.getD t []).length < 16777216) (e1 : qVar i (.ins 0 [(kT, a), (kM, mtO mt)] :: ρ') = some (.fz (.int (t : Int)))) (e2 : qVar j (.ins 0 [(kT, a), (kM, mtO mt)] :: ρ') = some (.fz (.int (u : Int))))
    (g : Q (.fz .none) (.ins 0 [(kT, a), (kM, mtO (addM mt t u))] :: ρ')) : wM (mMtFI 0 0 "mates" (qVar i) fAppend (qCons (qVar j) qNil) (.ins 0 [(kT, a), (kM, mtO mt)] :: ρ')) Q := by
  have e : ((mt.map fun l => O.lst (l.map natD)))[(t : Int).toNat]? = some (.lst ((mt.getD t []).map natD)) := by
    rw [Int.toNat_natCast, List.getElem?_map]
    simp [h]
  refine wM_mtFI (fs := [(kT, a), (kM, mtO mt)]) (ls := mt.map fun l => .lst (l.map natD)) (j := (t : Int)) (ds := (mt.getD t []).map natD) (zs := [.int (u : Int)]) (xs := [.fz (.int (u : Int))]) (r := (.none, (mt.getD t []).map natD ++ [.int (u : Int)])) rfl lu_m e1 (by omega) e (by simp [e2]) rfl (by simp [fAppend, sizeLine]; simpa using hl) ?_
  have e3 : (mt.getD t []).map natD ++ [PyData.int (u : Int)] = (mt.getD t [] ++ [u]).map natD := by simp [natD]
  rw [e3, Int.toNat_natCast, mt_set, pf_m1]
  exact g
theorem mem_topD {l : List Int} : (l = [] ∧ topD 0 l = 0) ∨ topD 0 l ∈ l := by
  cases l with
  | nil => exact .inl ⟨rfl, rfl⟩
  | cons x r =>
    right
    show r.foldl max x ∈ _
    rw [← maxI_cons]
    exact (maxI_is (by simp)).1
theorem init_spec {Q : O → List O → Prop} (ho : okT ts) (hn : ts.length ≤ 40) (hp : okP ts.length ps) (hs : ps.length ≤ 50000)
    (hQ : ∀ mt fl, okM ts ps mt → (fl = 0 ∨ ∃ c, Clq ts ps c ∧ fl = szs ts c) → Q (.fz .none) [.ins 0 (fsS ts mt .none (.fz .none) fl), .dead, .dead]) : wF (f_Search___init__ [.ins 0 [], .fz (.tuple (ts.map thD)), .fz (.list (ps.map prD))]) Q := by
  unfold f_Search___init__ m_Search___init__
  rw [wF_defN, wS_seq]
  simp
  rw [wS_seq, wS_setF]
  have e1 : (iLift (qIfA (qVar 1))) [O.ins 0 [(kT, .fz (.tuple (ts.map thD)))], .fz (.tuple (ts.map thD)), .fz (.list (ps.map prD)), .dead, .dead, .dead] = .ok (ts.map thD) [O.ins 0 [(kT, .fz (.tuple (ts.map thD)))], .fz (.tuple (ts.map thD)), .fz (.list (ps.map prD)), .dead, .dead, .dead] := rfl
  have e2 := lcN_new (f := fName 3) (ρ := [O.ins 0 [(kT, .fz (.tuple (ts.map thD)))], .fz (.tuple (ts.map thD)), .fz (.list (ps.map prD)), .dead, .dead, .dead]) (vs := [3]) (fun x => ⟨_, rfl, rfl⟩) (ts.map thD) [] (by simp; omega)
  refine wM_lcNew e1 e2 ?_
  have e3 : ([] : List O) ++ List.replicate (ts.map thD).length (.lst []) = (List.replicate ts.length ([] : List Nat)).map fun l => O.lst (l.map natD) := by simp
  rw [e3]
  refine ⟨_, rfl, by simp, ?_⟩
  have e4 : O.nst ((List.replicate ts.length ([] : List Nat)).map fun l => O.lst (l.map natD)) = mtO (List.replicate ts.length []) := rfl
  rw [e4, pf_m0, wS_seq]
  simp
  refine wS_forI (fun i ρ => ∃ (mt : List (List Nat)) (x4 x5 : O), ρ = [.ins 0 [(kT, .fz (.tuple (ts.map thD))), (kM, mtO mt)], .fz (.tuple (ts.map thD)), .fz (.list (ps.map prD)), .dead, x4, x5] ∧ okMi ts (ps.take i) mt) ⟨List.replicate ts.length [], _, _, rfl, by simp, fun t ht => by simp [ht]⟩ ?_ ?_
  · rintro i x ρ ex ⟨mt, x4, x5, rfl, hmt⟩
    rw [List.getElem?_map] at ex
    obtain ⟨q, eq, rfl⟩ := Option.map_eq_some_iff.mp ex
    obtain ⟨t, u⟩ := q
    obtain ⟨g1, g2⟩ := hp _ (List.mem_of_getElem? eq)
    simp only at g1 g2
    have hi := (List.getElem?_eq_some_iff.mp eq).1
    refine ⟨_, rfl, ?_⟩
    have hl1 := (hmt.2 t (by omega)).1
    have hl2 := (hmt.2 u (by omega)).1
    rw [List.length_take] at hl1 hl2
    have hb : ((addM mt t u).getD u []).length < 16777216 := by
      unfold addM
      rw [getD_setL (by rw [hmt.1]; omega), if_neg (by omega)]
      omega
    rw [wS_seq]
    show wS (sDrop (mMtFI 0 0 "mates" (qVar 4) fAppend (qCons (qVar 5) qNil)) [.ins 0 [(kT, .fz (.tuple (ts.map thD))), (kM, mtO mt)], .fz (.tuple (ts.map thD)), .fz (.list (ps.map prD)), .dead, .fz (.int (t : Int)), .fz (.int (u : Int))]) _ _ _ _
    rw [wS_drop]
    refine add_step (t := t) (u := u) (by rw [hmt.1]; omega) (by omega) rfl rfl ?_
    rw [wS_drop]
    refine add_step (t := u) (u := t) (by unfold addM; rw [List.length_set, hmt.1]; omega) hb rfl rfl ?_
    have := addM_ok hmt g1 g2
    have e9 : ps.take (i + 1) = ps.take i ++ [(t, u)] := by rw [List.take_succ, eq]; rfl
    rw [e9]
    exact ⟨_, _, _, rfl, this⟩
  · rintro ρ ⟨mt, x4, x5, rfl, hmt⟩
    have hz : ps.take (ps.map prD).length = ps := by simp
    rw [hz] at hmt
    have hM := okMi_ok hp hs hmt
    have hb2 : big62 (ts.length : Int) = true := big62_s (by omega) (by omega)
    rw [wS_seq]
    simp
    rw [wS_seq]
    simp
    generalize hfs : ([(kT, O.fz (.tuple (ts.map thD))), (kM, mtO mt), (kB, .fz .none), (kP, .fz .none)] : List (Str × O)) = fs
    have f1 : fs.lookup ("things" : Str) = some (.fz (.tuple (ts.map thD))) := by rw [← hfs]; simp
    have f2 : fs.lookup ("mates" : Str) = some (mtO mt) := by rw [← hfs]; simp
    have f3 : fs.lookup ("crowd" : Str) = none := by rw [← hfs]; exact lu_c0
    have go : ∀ (k : Nat) (acc : List Int) (x5 : O) (Q' : List PD → List O → Prop), k ≤ ts.length → acc.length + k = ts.length → (∀ x ∈ acc, ∃ c, Clq ts ps c ∧ x = szs ts c) → (∀ acc' : List Int, (∀ x ∈ acc', ∃ c, Clq ts ps c ∧ x = szs ts c) → Q' (acc'.map .int) [.ins 0 fs, .fz (.tuple (ts.map thD)), .fz (.list (ps.map prD)), .dead, .dead, x5]) →
        lcW (fName 4) (frzM (mMeth 0 0 "crowd" f_Search_crowd [none, none] (mCons (mLift (qFz (qLst qNil))) (mCons (mLift (qVar 4)) mNil)))) [4] ((rngD 0 ts.length).drop (ts.length - k)) (acc.map .int) [.ins 0 fs, .fz (.tuple (ts.map thD)), .fz (.list (ps.map prD)), .dead, .dead, x5] Q' := by
      intro k
      induction k with
      | zero =>
        intro acc x5 Q' _ _ ha hq
        have e : (rngD 0 ts.length).drop (ts.length - 0) = [] := by simp [rngD]
        rw [e]
        exact hq acc ha
      | succ k ih =>
        intro acc x5 Q' hk hl ha hq
        have hlt : ts.length - (k + 1) < (rngD 0 ts.length).length := by simp [rngD]; omega
        rw [List.drop_eq_getElem_cons hlt]
        have ex : (rngD 0 ts.length)[ts.length - (k + 1)] = .int ((ts.length - (k + 1) : Nat) : Int) := by simp [rngD]
        rw [ex, show ts.length - (k + 1) + 1 = ts.length - k by omega]
        refine ⟨_, rfl, ?_⟩
        generalize hj : ts.length - (k + 1) = j
        have hj2 : j < ts.length := by omega
        simp [-List.lookup_eq_none_iff, f3, sizeLine]
        refine crowd_spec f1 f2 f3 hM (by omega) 45 [] j _ ⟨fun t m => by simp at m; omega, by simp⟩ (by omega) fun c hc => ?_
        simp
        refine ⟨by omega, ?_⟩
        have := ih (acc ++ [szs ts c]) x5 Q' (by omega) (by simp; omega) (fun x m => by
          rcases List.mem_append.mp m with m | m
          · exact ha x m
          · rw [List.mem_singleton.mp m]
            exact ⟨c, hc, rfl⟩) hq
        simpa using this
    refine wM_lcI ?_
    simp [hb2]
    have g := go ts.length [] x5 (fun acc ρ2 => ∃ d, oMaxD [O.fz (.list acc)] [O.fz (.int 0)] = some (O.fz d) ∧ ∃ l, qVar 0 ρ2 = some (.ins 0 l) ∧ l.length < 1000 ∧ Q (.fz .none) (outsE [true, false, false] (ρ2.set 0 (.ins 0 (pfO "floor" (.fz d) l))))) (Nat.le_refl _) (by simp) (fun x m => by cases m) fun acc' ha => by
      refine ⟨_, oMaxD_l, fs, rfl, by rw [← hfs]; simp, ?_⟩
      rw [← hfs]
      simp only [List.set_cons_zero, pf_f0]
      refine hQ mt (topD 0 acc') hM ?_
      rcases mem_topD (l := acc') with ⟨_, e⟩ | m
      · exact .inl e
      · exact .inr (ha _ m)
    rw [Nat.sub_self, List.drop_zero, List.map_nil] at g
    simpa using g
end
end FM
namespace FM
open PySem PySem.Spec L2 PyProof.Rows
/-! ### the search: going on, in plain words -/
section
variable {ts : List (Int × Int)} {ps : List (Nat × Nat)} {mt : List (List Nat)}
def BestOk (ts : List (Int × Int)) (ps : List (Nat × Nat)) (b : PD) (bp : O) : Prop := (b = .none ∧ bp = .fz .none) ∨ ∃ (x : Int) (pl : List Int), b = .int x ∧ bp = .lst (pl.map .int) ∧ Pl ts ps pl ∧ HtLe ts pl x
def LeB (b b' : PD) : Prop := ∀ x : Int, b = .int x → ∃ y : Int, b' = .int y ∧ y ≤ x
def Rch (b : PD) (h : Int) : Prop := ∃ y : Int, b = .int y ∧ y ≤ h
theorem LeB.refl {b : PD} : LeB b b := fun x e => ⟨x, e, Int.le_refl _⟩
theorem LeB.trans {a b c : PD} (h1 : LeB a b) (h2 : LeB b c) : LeB a c := fun x e => by
  obtain ⟨y, e1, l1⟩ := h1 x e
  obtain ⟨z, e2, l2⟩ := h2 y e1
  exact ⟨z, e2, by omega⟩
theorem Rch.le {b c : PD} {h : Int} (r : Rch b h) (l : LeB b c) : Rch c h := by
  obtain ⟨y, e, h1⟩ := r
  obtain ⟨z, e2, h2⟩ := l y e
  exact ⟨z, e2, by omega⟩
def Ext (ts : List (Int × Int)) (q l : List Int) (pre : List Nat) (lp lt : Int) : Prop := (∀ u ∈ pre, l.getD u 0 = q.getD u 0) ∧ ∀ u, u < ts.length → (u ∈ pre ↔ (q.getD u 0 < lp ∨ (q.getD u 0 = lp ∧ (u : Int) ≤ lt)))
structure PP (ts : List (Int × Int)) (ps : List (Nat × Nat)) (l : List Int) (pre : List Nat) (top : Int) : Prop where
  len : l.length = ts.length
  nd : pre.Nodup
  lt : ∀ t ∈ pre, t < ts.length
  at_ : ∀ t ∈ pre, 0 ≤ l.getD t 0 ∧ l.getD t 0 % (thG ts t).2 = 0
  apart : ∀ t ∈ pre, ∀ u ∈ pre, t ≠ u → inP ps t u = true → lieO (l.getD t 0) (thG ts t).1 (l.getD u 0) (thG ts u).1 = false
  pos : 0 ≤ top
  end_ : ∀ t ∈ pre, l.getD t 0 + (thG ts t).1 ≤ top
  top_ : top = 0 ∨ ∃ t ∈ pre, top = l.getD t 0 + (thG ts t).1
def msOf (mt : List (List Nat)) (pre : List Nat) (t : Nat) : List Nat := (mt.getD t []).filter fun u => decide (u ∈ pre)
theorem msOf_mem (hm : okM ts ps mt) {pre : List Nat} {t u : Nat} (ht : t < ts.length) : u ∈ msOf mt pre t ↔ (u < ts.length ∧ u ≠ t ∧ inP ps t u = true) ∧ u ∈ pre := by
  unfold msOf
  rw [List.mem_filter, (hm.2 t ht).2 u, decide_eq_true_eq]
theorem PP.snoc {l : List Int} {pre : List Nat} {top : Int} {t : Nat} (ho : okT ts) (hm : okM ts ps mt) (p : PP ts ps l pre top) (ht : t < ts.length) (hn : t ∉ pre) : PP ts ps (l.set t (lstF ts l (msOf mt pre t) t)) (pre ++ [t]) (if top < lstF ts l (msOf mt pre t) t + (thG ts t).1 then lstF ts l (msOf mt pre t) t + (thG ts t).1 else top) := by
  have a := lstF_is (pl := l) (us := msOf mt pre t) ho ht fun u mu => ((msOf_mem hm ht).mp mu).1.1
  generalize lstF ts l (msOf mt pre t) t = v at a
  have hlen : t < l.length := by rw [p.len]; exact ht
  have g1 : (l.set t v).getD t 0 = v := by rw [getD_set hlen, if_pos rfl]
  have g2 : ∀ u ∈ pre, (l.set t v).getD u 0 = l.getD u 0 := fun u mu => by rw [getD_set hlen, if_neg (fun e : t = u => hn (by rw [e]; exact mu))]
  have hs := okT_th ho ht
  have mem : ∀ u, u ∈ pre ++ [t] ↔ u ∈ pre ∨ u = t := fun u => by rw [List.mem_append, List.mem_singleton]
  refine ⟨by rw [List.length_set]; exact p.len, ?_, fun u mu => ?_, fun u mu => ?_, fun x mx u mu hne hin => ?_, ?_, fun u mu => ?_, ?_⟩
  · rw [List.nodup_append]
    refine ⟨p.nd, by simp, fun a ma b mb e => ?_⟩
    rw [List.mem_singleton.mp mb] at e
    exact hn (e ▸ ma)
  · rcases (mem u).mp mu with m | m
    · exact p.lt u m
    · rw [m]; exact ht
  · rcases (mem u).mp mu with m | m
    · rw [g2 u m]; exact p.at_ u m
    · rw [m, g1]; exact ⟨a.2.1, a.1⟩
  · rcases (mem x).mp mx with m1 | m1 <;> rcases (mem u).mp mu with m2 | m2
    · rw [g2 x m1, g2 u m2]
      exact p.apart x m1 u m2 hne hin
    · rw [m2] at hne hin ⊢
      rw [g2 x m1, g1]
      have := lieO_false.mp (a.2.2.1 x ((msOf_mem hm ht).mpr ⟨⟨p.lt x m1, hne, by rw [inP_comm]; exact hin⟩, m1⟩))
      exact lieO_false.mpr (by omega)
    · rw [m1] at hne hin ⊢
      rw [g2 u m2, g1]
      exact a.2.2.1 u ((msOf_mem hm ht).mpr ⟨⟨p.lt u m2, fun e => hne e.symm, hin⟩, m2⟩)
    · omega
  · have := p.pos
    split <;> omega
  · rcases (mem u).mp mu with m | m
    · have := p.end_ u m
      rw [g2 u m]
      split <;> omega
    · rw [m, g1]
      split <;> omega
  · split
    · exact .inr ⟨t, by simp, by rw [g1]⟩
    · rcases p.top_ with e | ⟨u, mu, e⟩
      · exact .inl e
      · exact .inr ⟨u, (mem u).mpr (.inl mu), by rw [g2 u mu]; exact e⟩
theorem Ext.snoc {q l : List Int} {pre : List Nat} {lp lt top : Int} {t : Nat} (ho : okT ts) (hm : okM ts ps mt) (p : PP ts ps l pre top) (tq : Tight ts ps q) (x : Ext ts q l pre lp lt) (ht : t < ts.length) (hn : t ∉ pre) (hmin : ∀ u, u < ts.length → u ∉ pre → u ≠ t → ltK2 q t u) :
    (lp < lstF ts l (msOf mt pre t) t ∨ (lp = lstF ts l (msOf mt pre t) t ∧ lt < (t : Int))) ∧ Ext ts q (l.set t (lstF ts l (msOf mt pre t) t)) (pre ++ [t]) (lstF ts l (msOf mt pre t) t) t := by
  have low : ∀ u, u < ts.length → (u ∈ pre ↔ ltK2 q u t) := fun u hu => by
    constructor
    · intro m
      have h1 := (x.2 u hu).mp m
      have h2 : ¬ (q.getD t 0 < lp ∨ (q.getD t 0 = lp ∧ (t : Int) ≤ lt)) := fun z => hn ((x.2 t ht).mpr z)
      unfold ltK2
      omega
    · intro k
      rcases Classical.em (u ∈ pre) with m | m
      · exact m
      · have hne : u ≠ t := fun e => by subst e; exact ltK2_irrefl k
        have := hmin u hu m hne
        unfold ltK2 at this k
        omega
  have ev : lstF ts l (msOf mt pre t) t = q.getD t 0 := by
    rw [tq.2 t ht]
    refine lstF_congr ho ht (fun u mu => ((msOf_mem hm ht).mp mu).1.1) (fun u => ?_) fun u mu => x.1 u ((msOf_mem hm ht).mp mu).2
    rw [msOf_mem hm ht, ahd_mem]
    constructor
    · rintro ⟨⟨h1, h2, h3⟩, h4⟩
      exact ⟨h1, h3, (low u h1).mp h4⟩
    · rintro ⟨h1, h3, h4⟩
      exact ⟨⟨h1, fun e => by subst e; exact ltK2_irrefl h4, h3⟩, (low u h1).mpr h4⟩
  rw [ev]
  have hlen : t < l.length := by rw [p.len]; exact ht
  refine ⟨?_, fun u mu => ?_, fun u hu => ?_⟩
  · have h2 : ¬ (q.getD t 0 < lp ∨ (q.getD t 0 = lp ∧ (t : Int) ≤ lt)) := fun z => hn ((x.2 t ht).mpr z)
    omega
  · rw [getD_set hlen]
    by_cases e : t = u
    · subst e; rw [if_pos rfl]
    · rw [if_neg e]
      rcases List.mem_append.mp mu with m | m
      · exact x.1 u m
      · exact (e (List.mem_singleton.mp m).symm).elim
  · rw [List.mem_append, List.mem_singleton, low u hu]
    by_cases e : u = t
    · subst e
      simp
    · unfold ltK2
      omega
theorem min_ex {q : List Int} {n : Nat} {pre : List Nat} (h : ∃ t, t < n ∧ t ∉ pre) : ∃ t, t < n ∧ t ∉ pre ∧ ∀ u, u < n → u ∉ pre → u ≠ t → ltK2 q t u := by
  obtain ⟨od, o1, o2⟩ := srt_ex (pl := q) n
  obtain ⟨t, ht, hn⟩ := h
  have hf : t ∈ od.filter fun u => decide (u ∉ pre) := List.mem_filter.mpr ⟨o1.mem_iff.mpr (List.mem_range.mpr ht), by simpa using hn⟩
  have hs : (od.filter fun u => decide (u ∉ pre)).Pairwise fun u t => ltK2 q u t := List.Pairwise.filter _ o2
  cases e : od.filter fun u => decide (u ∉ pre) with
  | nil => rw [e] at hf; cases hf
  | cons a r =>
    rw [e] at hs
    have ma : a ∈ od.filter fun u => decide (u ∉ pre) := by rw [e]; exact List.mem_cons_self
    obtain ⟨m1, m2⟩ := List.mem_filter.mp ma
    refine ⟨a, List.mem_range.mp (o1.mem_iff.mp m1), by simpa using m2, fun u hu hun hne => ?_⟩
    have mu : u ∈ od.filter fun u => decide (u ∉ pre) := List.mem_filter.mpr ⟨o1.mem_iff.mpr (List.mem_range.mpr hu), by simpa using hun⟩
    rw [e] at mu
    rcases List.mem_cons.mp mu with z | z
    · exact (hne z).elim
    · exact (List.pairwise_cons.mp hs).1 u z
theorem PP.full {l : List Int} {pre : List Nat} {top : Int} (p : PP ts ps l pre top) (h : pre.length = ts.length) : ∀ t, t < ts.length → t ∈ pre := fun t ht => by
  rcases Classical.em (t ∈ pre) with m | m
  · exact m
  · have := len_le_sub (l := t :: pre) (r := List.range ts.length) (List.nodup_cons.mpr ⟨m, p.nd⟩) fun x mx => by
      rcases List.mem_cons.mp mx with e | mx
      · rw [e]; exact List.mem_range.mpr ht
      · exact List.mem_range.mpr (p.lt x mx)
    simp at this
    omega
theorem PP.some {l : List Int} {pre : List Nat} {top : Int} (p : PP ts ps l pre top) (h : pre.length ≠ ts.length) : ∃ t, t < ts.length ∧ t ∉ pre := by
  rcases Classical.em (∃ t, t < ts.length ∧ t ∉ pre) with z | z
  · exact z
  · have h1 := len_le_sub (l := List.range ts.length) (r := pre) List.nodup_range fun x mx => by
      rcases Classical.em (x ∈ pre) with m | m
      · exact m
      · exact (z ⟨x, List.mem_range.mp mx, m⟩).elim
    have h2 := len_le_sub (l := pre) (r := List.range ts.length) p.nd fun x mx => List.mem_range.mpr (p.lt x mx)
    simp at h1 h2
    omega
theorem PP.len_le {l : List Int} {pre : List Nat} {top : Int} (p : PP ts ps l pre top) : pre.length ≤ ts.length := by
  have h2 := len_le_sub (l := pre) (r := List.range ts.length) p.nd fun x mx => List.mem_range.mpr (p.lt x mx)
  simpa using h2
theorem PP.pl {l : List Int} {pre : List Nat} {top : Int} (p : PP ts ps l pre top) (h : pre.length = ts.length) : Pl ts ps l ∧ HtLe ts l top := by
  have f := p.full h
  exact ⟨⟨p.len, fun t ht => p.at_ t (f t ht), fun t u ht hu hne hin => p.apart t (f t ht) u (f u hu) hne hin⟩, p.pos, fun t ht => p.end_ t (f t ht)⟩
theorem PP.top_le {q l : List Int} {pre : List Nat} {top lp lt h : Int} (p : PP ts ps l pre top) (x : Ext ts q l pre lp lt) (hh : HtLe ts q h) : top ≤ h := by
  rcases p.top_ with e | ⟨t, mt, e⟩
  · rw [e]; exact hh.1
  · rw [e, x.1 t mt]
    exact hh.2 t (p.lt t mt)
end
end FM
namespace FM
open PySem PySem.Spec L2 PyProof.Rows
section
variable {ts : List (Int × Int)} {ps : List (Nat × Nat)} {mt : List (List Nat)}
theorem lu_gS {b : PD} {bp : O} {fl : Int} : (fsS ts mt b bp fl).lookup ("go_on" : Str) = none := lu_g0
@[simp] theorem luS_t {b : PD} {bp : O} {fl : Int} : (fsS ts mt b bp fl).lookup ("things" : Str) = some (.fz (.tuple (ts.map thD))) := lu_t
@[simp] theorem luS_m {b : PD} {bp : O} {fl : Int} : (fsS ts mt b bp fl).lookup ("mates" : Str) = some (mtO mt) := lu_m
@[simp] theorem luS_b {b : PD} {bp : O} {fl : Int} : (fsS ts mt b bp fl).lookup ("best" : Str) = some (.fz b) := lu_b
@[simp] theorem luS_p {b : PD} {bp : O} {fl : Int} : (fsS ts mt b bp fl).lookup ("best_places" : Str) = some bp := lu_p
@[simp] theorem luS_f {b : PD} {bp : O} {fl : Int} : (fsS ts mt b bp fl).lookup ("floor" : Str) = some (.fz (.int fl)) := lu_f
@[simp] theorem pfS_b {b c : PD} {bp : O} {fl : Int} : pfO "best" (.fz c) (fsS ts mt b bp fl) = fsS ts mt c bp fl := pf_b1
@[simp] theorem pfS_p {b : PD} {bp o : O} {fl : Int} : pfO "best_places" o (fsS ts mt b bp fl) = fsS ts mt b o fl := pf_p1
@[simp] theorem lenS {b : PD} {bp : O} {fl : Int} : (fsS ts mt b bp fl).length = 5 := rfl
theorem oLen_dic {ds : List (Key × PD)} : oLen [.dic ds] = some (.fz (.int (ds.length : Int))) := rfl
theorem oNotN_i {x : Int} : oNotN (.fz (.int x)) (.fz .none) = some (.fz (.bool true)) := rfl
theorem oNotN_n : oNotN (.fz .none) (.fz .none) = some (.fz (.bool false)) := rfl
/-- what stands in the loop -/
def gI (ts : List (Int × Int)) (ps : List (Nat × Nat)) (mt : List (List Nat)) (fl : Int) (l : List Int) (pre : List Nat) (top lp lt : Int) (b : PD) (i : Nat) (ρ : List O) : Prop := ∃ (b' : PD) (bp' : O) (x4 x5 x6 x7 x8 : O), ρ = [.ins 0 (fsS ts mt b' bp' fl), .dic (kvI l pre), .fz (.int top), .fz (.tuple [.int lp, .int lt]), x4, x5, x6, x7, x8] ∧ BestOk ts ps b' bp' ∧ LeB b b' ∧
  ∀ q h, Tight ts ps q → HtLe ts q h → Ext ts q l pre lp lt → (pre.length = ts.length → Rch b' h) ∧ ∀ t, t < i → t < ts.length → t ∉ pre → (∀ u, u < ts.length → u ∉ pre → u ≠ t → ltK2 q t u) → Rch b' h
theorem mates_part {l : List Int} {pre : List Nat} {t : Nat} {b : PD} {bp : O} {fl : Int} {x2 x3 x4 x5 x6 x7 x8 : O} (hm : okM ts ps mt) (hl : l.length = ts.length) (ht : t < ts.length) :
    lcGo (fName 8) (qB (qOp oIn (qVar 8) (qVar 1))) (qTup (qCons (qOp oIx (qFld 0 0 "things") (qVar 8)) (qCons (qOp oIx (qVar 1) (qVar 8)) qNil))) [.ins 0 (fsS ts mt b bp fl), .dic (kvI l pre), x2, x3, x4, x5, x6, x7, x8] ((mt.getD t []).map natD) = some (((msOf mt pre t).map fun u => (l.getD u 0, thG ts u)).map ocD) := by
  have h := lcGo_all (f := fName 8) (c := qB (qOp oIn (qVar 8) (qVar 1))) (e := qTup (qCons (qOp oIx (qFld 0 0 "things") (qVar 8)) (qCons (qOp oIx (qVar 1) (qVar 8)) qNil))) (ρ := [.ins 0 (fsS ts mt b bp fl), .dic (kvI l pre), x2, x3, x4, x5, x6, x7, x8]) (p := natP fun u => decide (u ∈ pre)) (h := fun x => match x with | .int u => ocD (l.getD u.toNat 0, thG ts u.toNat) | d => d) (xs := (mt.getD t []).map natD) fun x mx => by
    obtain ⟨u, mu, rfl⟩ := List.mem_map.mp mx
    obtain ⟨hu, _, _⟩ := ((hm.2 t ht).2 u).mp mu
    have e1 : atI (ts.map thD) (u : Int) = some (thD (thG ts u)) := at_th (ts := ts) hu
    have e3 : natP (fun u => decide (u ∈ pre)) (natD u) = decide (u ∈ pre) := natP_natD u
    have e4 := oIn_dic (ds := kvI l pre) (i := (u : Int))
    rw [lk_kvI] at e4
    rw [e3]
    refine ⟨_, rfl, ?_, fun hp => ?_⟩
    · simp [natD, e4]
    · rw [decide_eq_true_eq] at hp
      have e2 := oIx_dic (kvs := kvI l pre) (i := (u : Int))
      rw [kvI_lk hp] at e2
      simp only [natD, Int.toNat_natCast, ocD]
      generalize thG ts u = v at e1
      generalize l.getD u 0 = w at e2
      simp [sizeLine, e1, e2]
  rw [h, natD_filter (natP_natD (p := fun u => decide (u ∈ pre)))]
  unfold msOf
  rw [List.map_map, List.map_map]
  rfl
noncomputable def goLp (r : List O → FR) : MS := (sFor (iLift (qEnumT (qCons (qFld 0 0 "things") qNil))) (fTup 2 (fCons (fName 4) (fCons (fName 5) fNil))) (sIf (bLift (qB (qOp oNin (qVar 4) (qVar 1)))) (sSeq (sSet 6 (mLift (qCall (qOf f_least_place) (qCons (qVar 5) (qCons (qFz (qLc (qItA (qOp oIx (qFld 0 0 "mates") (qVar 4))) (fName 8) (qB (qOp oIn (qVar 8) (qVar 1))) (qTup (qCons (qOp oIx (qFld 0 0 "things") (qVar 8)) (qCons (qOp oIx (qVar 1) (qVar 8)) qNil))) [8])) qNil))))) (sIf (bLift (qB (qOp oGtX (qTup (qCons (qVar 6) (qCons (qVar 4) qNil))) (qVar 3)))) (sSeq (sSet 7 (mNew (qCb oDictC (qCons (qVar 1) qNil)))) (sSeq (sSetU 7 (qVar 4) (mLift (qVar 6))) (sDrop (mMeth 0 0 "go_on" r [some 7, none, none] (mRef 7 (mCons (mLift (qCb oMax2 (qCons (qVar 2) (qCons (qCall (qOf f_end_of) (qCons (qVar 5) (qCons (qVar 6) qNil))) qNil)))) (mCons (mLift (qTup (qCons (qVar 6) (qCons (qVar 4) qNil)))) mNil))))))) sNext)) sNext))
noncomputable def goSt : MS := (sIf (bLift (qB (qOp oEq (qCb oLen (qCons (qVar 1) qNil)) (qCb oLen (qCons (qFld 0 0 "things") qNil))))) (sSeq (sSetF 0 0 "best" (mLift (qVar 2))) (sSetF 0 0 "best_places" (mNew (qLc (qRng1 (qCons (qCb oLen (qCons (qFld 0 0 "things") qNil)) qNil)) (fName 4) qYes (qOp oIx (qVar 1) (qVar 4)) [4])))) sNext)
theorem go_form {r : List O → FR} : m_Search_go_on r = sSeq (sIf (bLift (qAnd (qB (qOp oNotN (qFld 0 0 "best") (qC (.none)))) (qOr (qB (qOp oGe (qVar 2) (qFld 0 0 "best"))) (qB (qOp oEq (qFld 0 0 "best") (qFld 0 0 "floor")))))) sRetN sNext) (sSeq goSt (goLp r)) := rfl
section
variable {nx bk ct : List O → Prop} {rt : O → List O → Prop} {l : List Int} {pre : List Nat} {top lp lt fl : Int} {b : PD}
theorem go_loop (ho : okT ts) (hm : okM ts ps mt) (hn : ts.length ≤ 40) {r : List O → FR} (p : PP ts ps l pre top)
    (ih : ∀ (l : List Int) (pre' : List Nat) (top lp lt : Int) (b : PD) (bp : O) (Q : O → List O → Prop), PP ts ps l pre' top → pre'.length = pre.length + 1 → BestOk ts ps b bp →
      (∀ b' bp', BestOk ts ps b' bp' → LeB b b' → (∀ q h, Tight ts ps q → HtLe ts q h → Ext ts q l pre' lp lt → Rch b' h) → Q (.fz .none) [.ins 0 (fsS ts mt b' bp' fl), .dic (kvI l pre'), .dead, .dead]) →
      wF (r [.ins 0 (fsS ts mt b bp fl), .dic (kvI l pre'), .fz (.int top), .fz (.tuple [.int lp, .int lt])]) Q)
    (h : ∀ ρ, gI ts ps mt fl l pre top lp lt b ts.length ρ → nx ρ) : ∀ ρ, gI ts ps mt fl l pre top lp lt b 0 ρ → wS (goLp r ρ) nx rt bk ct := by
  rintro ρ ⟨b0, bp0, y4, y5, y6, y7, y8, rfl, i0, i1, i2⟩
  unfold goLp
  have hpl := p.len_le
  have hkl : (kvI l pre).length = pre.length := by simp [kvI]
  simp
  refine wS_forI (gI ts ps mt fl l pre top lp lt b) ⟨b0, bp0, y4, y5, y6, y7, y8, rfl, i0, i1, i2⟩ ?_ ?_
  · rintro i x ρ ex ⟨b', bp', x4, x5, x6, x7, x8, rfl, j0, j1, j2⟩
    obtain ⟨d, ed, rfl⟩ := enumGo_at ex
    rw [List.getElem?_map] at ed
    obtain ⟨th, eth, rfl⟩ := Option.map_eq_some_iff.mp ed
    have hi := (List.getElem?_eq_some_iff.mp eth).1
    have hth : thG ts i = th := by
      unfold thG
      rw [List.getD_eq_getElem?_getD, eth]
      rfl
    refine ⟨_, rfl, ?_⟩
    simp only [pairD, Nat.zero_add]
    have e1 := oNin_dic (ds := kvI l pre) (i := (i : Int))
    rw [lk_kvI] at e1
    by_cases hin : i ∈ pre
    · simp [hin] at e1
      simp [e1]
      refine ⟨b', bp', _, _, _, _, _, rfl, j0, j1, fun q h tq hh xq => ⟨(j2 q h tq hh xq).1, fun t ht htl htn hmin => ?_⟩⟩
      rcases Nat.lt_or_ge t i with z | z
      · exact (j2 q h tq hh xq).2 t z htl htn hmin
      · have : t = i := by omega
        exact (htn (this ▸ hin)).elim
    · have e1' : oNin (.fz (.int (i : Int))) (.dic (kvI l pre)) = some (.fz (.bool true)) := by rw [e1]; simp [hin]
      have hmt := mt_at (mt := mt) (t := i) (by rw [hm.1]; exact hi)
      have hml := (hm.2 i hi).1
      have hml2 : ((mt.getD i []).map natD).length ≤ sizeLine := by rw [List.length_map]; unfold sizeLine; omega
      have mp := fun (x2 x3 x4 x5 x6 x7 : O) => mates_part (ts := ts) (ps := ps) (mt := mt) (l := l) (pre := pre) (t := i) (b := b') (bp := bp') (fl := fl) (x2 := x2) (x3 := x3) (x4 := x4) (x5 := x5) (x6 := x6) (x7 := x7) (x8 := .dead) hm p.len hi
      have hok := okT_th ho hi
      have hmsl : (msOf mt pre i).length ≤ 100000 := Nat.le_trans (List.length_filter_le _ _) hml
      have hq := q_least (th := th) (xs := (msOf mt pre i).map fun u => (l.getD u 0, thG ts u)) (by rw [← hth]; exact hok.2.2.1) (by rw [← hth]; exact hok.2.2.2) (by simpa using hmsl)
      have hv : leastG th ((msOf mt pre i).map fun u => (l.getD u 0, thG ts u)) = lstF ts l (msOf mt pre i) i := by unfold lstF; rw [hth]
      rw [hv] at hq
      have hpp := p.snoc ho hm hi hin
      have hxt := fun (q : List Int) (tq : Tight ts ps q) (xq : Ext ts q l pre lp lt) hmin => Ext.snoc ho hm p tq xq hi hin hmin
      have hput := kvI_put (v := lstF ts l (msOf mt pre i) i) hin (by rw [p.len]; exact hi : i < l.length)
      generalize lstF ts l (msOf mt pre i) i = v at hq hpp hxt hput
      generalize (msOf mt pre i).map (fun u => (l.getD u 0, thG ts u)) = xs at hq mp
      simp only [List.length_map] at hml2
      generalize mt.getD i [] = ml at hmt hml2 mp
      simp [e1']
      rw [wS_seq]
      simp [mtO, hmt, hml2, mp]
      refine ⟨.int v, by simp [qCall, mtO, hmt, hml2, mp, hq], ?_⟩
      have h2 : 2 ≤ sizeLine := by unfold sizeLine; omega
      simp only [h2, if_true, oGtX_ii]
      have skip : ¬ (lp < v ∨ lp = v ∧ lt < (i : Int)) → ∀ x6 x7 : O, gI ts ps mt fl l pre top lp lt b (i + 1) [.ins 0 (fsS ts mt b' bp' fl), .dic (kvI l pre), .fz (.int top), .fz (.tuple [.int lp, .int lt]), .fz (.int (i : Int)), .fz (thD th), x6, x7, x8] := fun hno x6 x7 => by
        refine ⟨b', bp', _, _, _, _, _, rfl, j0, j1, fun q h tq hh xq => ⟨(j2 q h tq hh xq).1, fun t ht htl htn hmin => ?_⟩⟩
        rcases Nat.lt_or_ge t i with z | z
        · exact (j2 q h tq hh xq).2 t z htl htn hmin
        · have e : t = i := by omega
          subst e
          exact (hno (hxt q tq xq hmin).1).elim
      by_cases hgt : lp < v ∨ lp = v ∧ lt < (i : Int)
      · right
        refine ⟨by simp [hgt], ?_⟩
        have hkl2 : (kvI l pre).length < 16777216 := by omega
        rw [wS_seq]
        simp
        rw [wS_seq]
        simp [sizeLine, hkl2, hput, -List.lookup_eq_none_iff, lu_gS]
        have hend : qOf f_end_of [thD th, .int v] = some (.int (v + th.1)) := q_end_of
        refine ⟨.int (if top < v + th.1 then v + th.1 else top), by simp [qCall, hend], ?_⟩
        rw [hth] at hpp
        refine ih (l.set i v) (pre ++ [i]) _ v (i : Int) b' bp' _ hpp (by simp) j0 fun b2 bp2 k0 k1 k2 => ?_
        refine ⟨b2, bp2, _, _, _, _, _, rfl, k0, j1.trans k1, fun q h tq hh xq => ⟨fun e => ((j2 q h tq hh xq).1 e).le k1, fun t ht htl htn hmin => ?_⟩⟩
        rcases Nat.lt_or_ge t i with z | z
        · exact ((j2 q h tq hh xq).2 t z htl htn hmin).le k1
        · have e : t = i := by omega
          subst e
          exact k2 q h tq hh (hxt q tq xq hmin).2
      · left
        refine ⟨by simp [hgt], skip hgt _ _⟩
  · intro ρ g
    refine h ρ ?_
    have e : (enumGo 0 (ts.map thD)).length = ts.length := by rw [enum_len, List.length_map]
    rw [e] at g
    exact g
theorem go_spec (ho : okT ts) (hm : okM ts ps mt) (hn : ts.length ≤ 40) (hfl : ∀ q h, Pl ts ps q → HtLe ts q h → fl ≤ h) :
    ∀ (m : Nat) (l : List Int) (pre : List Nat) (top lp lt : Int) (b : PD) (bp : O) (Q : O → List O → Prop), PP ts ps l pre top → ts.length < pre.length + m → BestOk ts ps b bp →
      (∀ b' bp', BestOk ts ps b' bp' → LeB b b' → (∀ q h, Tight ts ps q → HtLe ts q h → Ext ts q l pre lp lt → Rch b' h) → Q (.fz .none) [.ins 0 (fsS ts mt b' bp' fl), .dic (kvI l pre), .dead, .dead]) →
      wF (grp_Search_go_on m 0 [.ins 0 (fsS ts mt b bp fl), .dic (kvI l pre), .fz (.int top), .fz (.tuple [.int lp, .int lt])]) Q := by
  intro m
  induction m with
  | zero =>
    intro l pre top lp lt b bp Q p hlt
    have := p.len_le
    omega
  | succ m ih =>
    intro l pre top lp lt b bp Q p hlt hb hQ
    show wF (defN 5 [true, true, false, false] (m_Search_go_on (grp_Search_go_on m 0)) _) Q
    rw [go_form, wF_defN]
    have hpl := p.len_le
    have hkl : (kvI l pre).length = pre.length := by simp [kvI]
    have hbig : big62 (ts.length : Int) = true := big62_s (by omega) (by omega)
    have hrl : ts.length ≤ 16777216 := by omega
    -- behind the loop
    have fin : ∀ ρ, gI ts ps mt fl l pre top lp lt b ts.length ρ → Q (.fz .none) (outsE [true, true, false, false] ρ) := by
      rintro ρ ⟨b', bp', x4, x5, x6, x7, x8, rfl, j0, j1, j2⟩
      refine hQ b' bp' j0 j1 fun q h tq hh xq => ?_
      obtain ⟨g1, g2⟩ := j2 q h tq hh xq
      by_cases e : pre.length = ts.length
      · exact g1 e
      · obtain ⟨t, t1, t2, t3⟩ := min_ex (q := q) (p.some e)
        exact g2 t t1 t1 t2 t3
    have lp_ : ∀ ρ, gI ts ps mt fl l pre top lp lt b 0 ρ → wS (goLp (grp_Search_go_on m 0) ρ) (fun ρ => Q (.fz .none) (outsE [true, true, false, false] ρ)) (fun o ρ => Q o (outsE [true, true, false, false] ρ)) (fun _ => False) (fun _ => False) :=
      go_loop ho hm hn p (fun l pre' top lp lt b bp Q p' e hb' hq' => ih l pre' top lp lt b bp Q p' (by omega) hb' hq') fin
    -- what has been reached, if all are put
    have set_ : (∀ x, b = .int x → top < x) → wS (sSeq goSt (goLp (grp_Search_go_on m 0)) [.ins 0 (fsS ts mt b bp fl), .dic (kvI l pre), .fz (.int top), .fz (.tuple [.int lp, .int lt]), .dead, .dead, .dead, .dead, .dead]) (fun ρ => Q (.fz .none) (outsE [true, true, false, false] ρ)) (fun o ρ => Q o (outsE [true, true, false, false] ρ)) (fun _ => False) (fun _ => False) := by
      intro hx
      rw [wS_seq]
      unfold goSt
      by_cases e : pre.length = ts.length
      · have e2 : ((pre.length : Int) = (ts.length : Int)) := by omega
        simp [oLen_dic, hkl, e2]
        rw [wS_seq]
        have hall := p.full e
        have l3 : ∀ (x0 x2 x3 x5 x6 x7 x8 : O), lcGo (fName 4) qYes (qOp oIx (qVar 1) (qVar 4)) [x0, .dic (kvI l pre), x2, x3, .dead, x5, x6, x7, x8] (rngD 0 ts.length) = some (l.map .int) := fun x0 x2 x3 x5 x6 x7 x8 => by
          have h := lcGo_map (f := fName 4) (e := qOp oIx (qVar 1) (qVar 4)) (ρ := [x0, .dic (kvI l pre), x2, x3, .dead, x5, x6, x7, x8]) (h := fun x => match x with | .int u => .int (l.getD u.toNat 0) | d => d) (xs := rngD 0 ts.length) fun x m => by
            obtain ⟨j, hj⟩ := List.mem_iff_getElem?.mp m
            obtain ⟨rfl, hj2⟩ := rngD_at hj
            have e2 := oIx_dic (kvs := kvI l pre) (i := (j : Int))
            rw [kvI_lk (hall j hj2)] at e2
            refine ⟨_, rfl, ?_⟩
            simp only [Int.toNat_natCast]
            generalize l.getD j 0 = w at e2
            simp [e2]
          rw [h]
          have e3 : (rngD 0 ts.length).map (fun x => match x with | .int u => PyData.int (l.getD u.toNat 0) | d => d) = ((List.range ts.length).map fun t => l.getD t 0).map .int := by
            unfold rngD
            rw [List.map_map, List.map_map]
            apply List.map_congr_left
            intro j _
            simp
          rw [e3, getD_all p.len]
        simp [hbig, sizeLine, hrl, l3]
        obtain ⟨q1, q2⟩ := p.pl e
        refine lp_ _ ⟨.int top, _, _, _, _, _, _, rfl, .inr ⟨top, l, rfl, rfl, q1, q2⟩, fun x ex => ⟨top, rfl, by have := hx x ex; omega⟩, fun q h tq hh xq => ⟨fun _ => ⟨top, rfl, p.top_le xq hh⟩, fun t ht => by omega⟩⟩
      · have e2 : ¬ ((pre.length : Int) = (ts.length : Int)) := by omega
        simp [oLen_dic, hkl, e2]
        exact lp_ _ ⟨b, bp, _, _, _, _, _, rfl, hb, LeB.refl, fun q h tq hh xq => ⟨fun e' => (e e').elim, fun t ht => by omega⟩⟩
    rw [wS_seq]
    rcases hb with ⟨rfl, rfl⟩ | ⟨x, pl, rfl, rfl, b1, b2⟩
    · simp [oNotN_n]
      exact set_ fun x e => by cases e
    · by_cases h1 : x ≤ top
      · simp [oNotN_i, h1]
        refine hQ (.int x) _ (.inr ⟨x, pl, rfl, rfl, b1, b2⟩) LeB.refl fun q h tq hh xq => ⟨x, rfl, ?_⟩
        have := p.top_le xq hh
        omega
      · by_cases h2 : x = fl
        · subst h2
          simp [oNotN_i, h1]
          refine hQ (.int x) _ (.inr ⟨x, pl, rfl, rfl, b1, b2⟩) LeB.refl fun q h tq hh xq => ⟨x, rfl, ?_⟩
          have := hfl q h tq.1 hh
          omega
        · simp [oNotN_i, h1, h2]
          exact set_ fun y e => by
            cases e
            omega
end
end
end FM
namespace FM
open PySem PySem.Spec L2 PyProof.Rows
section
variable {ts : List (Int × Int)} {ps : List (Nat × Nat)}
theorem least_spec {Q : O → List O → Prop} (ho : okT ts) (hn : ts.length ≤ 8) (hp : okP ts.length ps) (hs : ps.length ≤ 50000)
    (hQ : ∀ L pl, isL ts ps L → Pl ts ps pl → HtLe ts pl L → Q (.ntp [.fz (.int L), .lst (pl.map .int)]) [.dead, .dead]) : wF (f_least [.fz (.tuple (ts.map thD)), .fz (.list (ps.map prD))]) Q := by
  unfold f_least m_least
  have h8 : ¬ (8 < (ts.length : Int)) := by omega
  rw [wF_defN, wS_seq]
  simp [h8]
  rw [wS_seq]
  simp
  refine init_spec ho (by omega) hp hs fun mt fl hm hfl => ?_
  simp
  rw [wS_seq]
  simp [-List.lookup_eq_none_iff, lu_gS, sizeLine]
  have hfl' : ∀ q h, Pl ts ps q → HtLe ts q h → fl ≤ h := fun q h hq hh => by
    rcases hfl with e | ⟨c, hc, e⟩
    · rw [e]; exact hh.1
    · rw [e]; exact clq_le ho hq hh hc
  have e0 : (.dic [] : O) = .dic (kvI (List.replicate ts.length 0) []) := rfl
  rw [e0]
  refine go_spec ho hm (by omega) hfl' 45 (List.replicate ts.length 0) [] 0 0 (-1) .none (.fz .none) _ ⟨by simp, .nil, fun t m => by simp at m, fun t m => by simp at m, fun t m => by simp at m, by omega, fun t m => by simp at m, .inl rfl⟩ (by simp; omega) (.inl ⟨rfl, rfl⟩) fun b bp k0 k1 k2 => ?_
  have reach : ∀ pl h, Pl ts ps pl → HtLe ts pl h → Rch b h := fun pl h hpl hh => by
    obtain ⟨q, tq, hq⟩ := tight_of ho hpl hh
    refine k2 q h tq hq ⟨fun u m => by simp at m, fun u hu => ?_⟩
    have := (tq.1.2.1 u hu).1
    exact ⟨fun m => by simp at m, fun m => by omega⟩
  have hpl0 : Pl ts ps (placedG ts ps (List.range ts.length)) := placed_pl ho ⟨List.nodup_range, fun t m => List.mem_range.mp m⟩ fun t h => List.mem_range.mpr h
  obtain ⟨L, eb, _⟩ := reach _ _ hpl0 (hgtG_is placedG_len).1
  rcases k0 with ⟨e, _⟩ | ⟨x, pl, e1, e2, e3, e4⟩
  · rw [e] at eb; cases eb
  · rw [e1] at eb
    cases eb
    subst e1 e2
    have hL : isL ts ps L := ⟨⟨pl, e3, e4⟩, fun q h hq hh => by
      obtain ⟨y, ey, hy⟩ := reach q h hq hh
      cases ey
      exact hy⟩
    simp
    refine wM_moveF (fs := fsS ts mt (.int L) (.lst (pl.map .int)) fl) (o := .lst (pl.map .int)) rfl luS_p (by simp) ?_
    simp [sizeLine]
    exact hQ L pl hL e3 e4
theorem kept_tp (ho : okT ts) (ht : ts.length ≤ 1000) (hp : okP ts.length ps) (hs : ps.length ≤ 100000) : ∃ z, oStr [.fz (.list [.tuple (ts.map thD), .list (ps.map prD)])] = some (.fz (.str z)) := by
  have f1 := ths_fine ho
  have f2 := prs_fine hp (by omega)
  have f4 := (FineA.cons f1 (FineA.cons f2 FineA.nil)).list
  exact ⟨_, oStr_seq f4 (by decide) (by unfold sizeLine; omega) rfl⟩
theorem pl_ok (hp : okP ts.length ps) {pl : List Int} (h : Pl ts ps pl) : placingOk ts ps (.list (pl.map .int)) = true := by
  have h1 : placesOk ts (.list (pl.map .int)) = true := placesOk_of h.1 fun t ht => h.2.1 t ht
  have h2 : ps.any (overG ts pl) = false := by
    rw [List.any_eq_false]
    intro q mq
    obtain ⟨t, u⟩ := q
    obtain ⟨g1, g2⟩ := hp _ mq
    simp only at g1 g2
    have := h.2.2 t u (by omega) g2 (by omega) (by
      unfold inP
      rw [show min t u = t by omega, show max t u = u by omega]
      exact decide_eq_true mq)
    intro hh
    have e : overG ts pl (t, u) = lieO (pl.getD t 0) (thG ts t).1 (pl.getD u 0) (thG ts u).1 := rfl
    rw [e, this] at hh
    cases hh
  simp [placingOk, h1, h2]
end
end FM
namespace FM
open PySem PySem.Spec L2 PyProof.Rows
section
variable {ts : List (Int × Int)} {ps : List (Nat × Nat)}
/-- no place of a thing put one by one is great -/
theorem place_low {od : List Nat} (ho : okT ts) (hod : okO ts.length od) : ∀ (i t : Nat), od[i]? = some t → (placedG ts ps od).getD t 0 ≤ 2000000000 * (i : Int) := by
  intro i
  induction i using Nat.strongRecOn with
  | ind i ih =>
    intro t e
    have fix := (buildG_fix (f := placeF ts ps) placeF_congr (r := od) (pre := []) (l := List.replicate ts.length 0) (by simpa using hod.1) (fun t m => by simpa using hod.2 t m)).2 i t e
    have fix : (placedG ts ps od).getD t 0 = placeF ts ps (placedG ts ps od) (od.take i) t := by simpa [placedG] using fix
    have hok : 1 ≤ (thG ts t).1 ∧ (thG ts t).1 ≤ 10 ^ 9 ∧ 1 ≤ (thG ts t).2 ∧ (thG ts t).2 ≤ 64 := okT_at ho (hod.2 t (List.mem_of_getElem? e))
    have hx1 : ∀ y ∈ ((od.take i).filter (inP ps t)).map fun u => ((placedG ts ps od).getD u 0, thG ts u), 1 ≤ y.2.1 := fun y m => by
      obtain ⟨u, mu, rfl⟩ := List.mem_map.mp m
      exact (okT_at ho (hod.2 u (List.mem_of_mem_take (List.mem_filter.mp mu).1))).1
    obtain ⟨_, _, _, _, r5⟩ := leastG_is (th := thG ts t) hok.1 hok.2.2.1 hx1
    have e2 : leastG (thG ts t) (((od.take i).filter (inP ps t)).map fun u => ((placedG ts ps od).getD u 0, thG ts u)) = (placedG ts ps od).getD t 0 := by rw [fix]; rfl
    rw [e2] at r5
    rcases r5 with r5 | ⟨y, my, r5⟩
    · omega
    · obtain ⟨u, mu, rfl⟩ := List.mem_map.mp my
      have mu2 := (List.mem_filter.mp mu).1
      obtain ⟨j, hj⟩ := List.mem_iff_getElem?.mp mu2
      have hji : j < i := by
        have := (List.getElem?_eq_some_iff.mp hj).1
        rw [List.length_take] at this
        omega
      rw [List.getElem?_take_of_lt hji] at hj
      have h1 := ih j hji u hj
      have h2 : 1 ≤ (thG ts u).1 ∧ (thG ts u).1 ≤ 10 ^ 9 ∧ 1 ≤ (thG ts u).2 ∧ (thG ts u).2 ≤ 64 := okT_at ho (hod.2 u (List.mem_of_getElem? hj))
      obtain ⟨u1, u2, u3⟩ : (placedG ts ps od).getD u 0 + (thG ts u).1 ≤ up ((placedG ts ps od).getD u 0 + (thG ts u).1) (thG ts t).2 ∧ up ((placedG ts ps od).getD u 0 + (thG ts u).1) (thG ts t).2 < (placedG ts ps od).getD u 0 + (thG ts u).1 + (thG ts t).2 ∧ True := by
        have := up_is (e := (placedG ts ps od).getD u 0 + (thG ts u).1) (b := (thG ts t).2) (by omega)
        exact ⟨by omega, by omega, trivial⟩
      simp only at r5
      omega
/-- lists of so many numbers, none below nought or great -/
def okL (n : Nat) (l : List Int) : Prop := l.length = n ∧ ∀ x ∈ l, 0 ≤ x ∧ x ≤ 10 ^ 12
def pLD (l : List Int) : PD := .list (l.map .int)
theorem okL_get {n k : Nat} {l : List Int} (h : okL n l) (hk : k < n) : 0 ≤ l.getD k 0 ∧ l.getD k 0 ≤ 10 ^ 12 := by
  have e : k < l.length := by rw [h.1]; exact hk
  apply h.2
  rw [List.getD_eq_getElem?_getD, List.getElem?_eq_getElem e]
  exact List.getElem_mem e
theorem placed_okL {od : List Nat} (ho : okT ts) (hn : ts.length ≤ 8) (hod : okO ts.length od) (hall : ∀ t, t < ts.length → t ∈ od) (hl : od.length ≤ 8) : (placedG ts ps od).length = ts.length ∧ ∀ x ∈ placedG ts ps od, 0 ≤ x ∧ x ≤ 20000000000 := by
  refine ⟨placedG_len, fun x m => ?_⟩
  obtain ⟨t, ht, rfl⟩ := getD_mem m
  rw [placedG_len] at ht
  obtain ⟨i, e⟩ := at_od (hall t ht)
  have h1 := place_low (ps := ps) ho hod i t e
  have h2 := (place_at (ps := ps) ho hod e).1
  have h3 := (List.getElem?_eq_some_iff.mp e).1
  omega
theorem topD_hgt {pl : List Int} (ho : okT ts) (hp : ∀ t, t < ts.length → 0 ≤ pl.getD t 0) (hl : pl.length = ts.length) : topD 0 (List.zipWith (fun (t : Int × Int) p => p + t.1) ts pl) = hgtG ts pl := by
  have e : List.zipWith (fun (t : Int × Int) p => p + t.1) ts pl = List.zipWith (fun (p : Int) (t : Int × Int) => p + t.1) pl ts := by
    rw [List.zipWith_comm]
  unfold hgtG
  rw [e]
  cases hz : List.zipWith (fun (p : Int) (t : Int × Int) => p + t.1) pl ts with
  | nil => rfl
  | cons x r =>
    rw [maxI_cons]
    show r.foldl max x = (x :: r).foldl max 0
    have hx : 0 ≤ x := by
      have m : x ∈ List.zipWith (fun (p : Int) (t : Int × Int) => p + t.1) pl ts := by rw [hz]; exact List.mem_cons_self
      obtain ⟨i, hi, rfl⟩ := List.mem_iff_getElem.mp m
      have hi2 : i < ts.length := by simp at hi; omega
      have h1 := hp i hi2
      have h2 := okT_at ho hi2
      rw [List.getElem_zipWith]
      rw [List.getD_eq_getElem?_getD, List.getElem?_eq_getElem (by omega)] at h1
      rw [List.getD_eq_getElem?_getD, List.getElem?_eq_getElem (by omega)] at h2
      simp only [Option.getD_some] at h1 h2
      omega
    show _ = r.foldl max (max 0 x)
    rw [show max 0 x = x by omega]
def leastOk (ts : List (Int × Int)) (ps : List (Nat × Nat)) (L : Int) (d : PD) : Bool := placingOk ts ps d && match d with
  | .list ds => (match intsD ds with | some l => decide (hgtG ts l = L) | none => false)
  | _ => false
theorem allOk_nn : ∀ {pl : List Int} {ts : List (Int × Int)}, pl.length = ts.length → allOk (pl.map .int) ts = true → ∀ t, t < ts.length → 0 ≤ pl.getD t 0
  | [], [], _, _, _, h => by cases h
  | [], _ :: _, h, _, _, _ => by cases h
  | _ :: _, [], h, _, _, _ => by cases h
  | p :: pl, t :: ts, hl, h, j, hj => by
    simp [allOk, pOk] at h
    cases j with
    | zero => simpa using h.1.1
    | succ j =>
      have := allOk_nn (pl := pl) (ts := ts) (by simpa using hl) h.2 j (by simpa using hj)
      simpa using this
theorem placesOk_nn {pl : List Int} (h : placesOk ts (.list (pl.map .int)) = true) (hl : pl.length = ts.length) : ∀ t, t < ts.length → 0 ≤ pl.getD t 0 := by
  simp [placesOk] at h
  exact allOk_nn hl h.2
theorem q_is_least {L : Int} {pl0 : List Int} {d : PD} (ho : okT ts) (ht : ts.length ≤ 8) (hp : okP ts.length ps) (hf : qOf f_least [.tuple (ts.map thD), .list (ps.map prD)] = some (.tuple [.int L, .list (pl0.map .int)])) : qOf f_is_least [.tuple (ts.map thD), .list (ps.map prD), d] = some (.bool (leastOk ts ps L d)) := by
  apply qof_of
  unfold f_is_least m_is_least
  have e1 := q_is_placing (d := d) ho (by omega) hp
  cases h : placingOk ts ps d with
  | false =>
    rw [h] at e1
    simp [qCall, e1, leastOk, h]
  | true =>
    rw [h] at e1
    have h1 : placesOk ts d = true := by
      unfold placingOk at h
      simp at h
      exact h.1
    obtain ⟨pl, rfl, hl⟩ := placesOk_ints h1
    have e2 := q_height (ts := ts) (pl := pl) (by omega) hl
    rw [topD_hgt ho (placesOk_nn h1 hl) hl] at e2
    simp [qCall, e1, e2, hf, leastOk, h]
theorem q_due {L : Int} {d : PD} {ρ : List O} {Q : O → Prop} : True := trivial
def okD (n : Nat) (d : PD) : Prop := ∃ l : List Int, (d = .list (l.map .int) ∨ d = .tuple (l.map .int)) ∧ l.length = n ∧ ∀ x ∈ l, 0 ≤ x ∧ x ≤ 10 ^ 13
theorem pLD_mid {a b : List Int} {v : Int} : pLD (a ++ v :: b) = .list (a.map .int ++ .int v :: b.map .int) := by
  unfold pLD
  rw [List.map_append, List.map_cons]
theorem map_pLD {ls : List (List Int)} {i : Nat} {x : PD} (e : (ls.map pLD)[i]? = some x) : ∃ l, l ∈ ls ∧ ls[i]? = some l ∧ x = .list (l.map .int) := by
  rw [List.getElem?_map] at e
  obtain ⟨l, e1, rfl⟩ := Option.map_eq_some_iff.mp e
  exact ⟨l, List.mem_of_getElem? e1, e1, rfl⟩
theorem moved_ok {n k : Nat} {l : List Int} {v : Int} (h : okL n l) (hk : k < n) (h0 : 0 ≤ v) (h1 : v ≤ 10 ^ 12) : okL n (cut l none (some (k : Int)) ++ v :: cut l (some ((k : Int) + 1)) none) := by
  have e1 : cut l none (some (k : Int)) = l.take k := cut_take
  have e2 : cut l (some ((k : Int) + 1)) none = l.drop (k + 1) := cut_fr (k := k + 1)
  rw [e1, e2]
  refine ⟨?_, fun x m => ?_⟩
  · simp
    have := h.1
    omega
  · rcases List.mem_append.mp m with m | m
    · exact h.2 x (List.mem_of_mem_take m)
    · rcases List.mem_cons.mp m with rfl | m
      · exact ⟨h0, h1⟩
      · exact h.2 x (List.mem_of_mem_drop m)
/-- places that are moved: lower bounds for the first ones -/
def okB (n : Nat) (l : List Int) : Prop := l.length = n ∧ ∀ x ∈ l, 0 ≤ x ∧ x ≤ 30000000000
theorem okB.okL {n : Nat} {l : List Int} (h : okB n l) : okL n l := ⟨h.1, fun x m => by have := h.2 x m; omega⟩
section
variable {nx bk ct : List O → Prop} {rt : O → List O → Prop}
def onI (ts : List (Int × Int)) (ps : List (Nat × Nat)) (s : Int) (n : Nat) (i : Nat) (ρ : List O) : Prop := ∃ (a c : Int) (ls : List (List Int)) (x5 x6 : O), ρ = [.lst [.int a, .int s, .int c], .fz (.tuple (ts.map thD)), .fz (.list (ps.map prD)), .fz (.int (ts.length : Int)), .lst (ls.map pLD), x5, x6, .dead, .dead, .dead, .dead, .dead, .dead, .dead, .dead, .dead, .dead] ∧ 0 ≤ a ∧ 0 ≤ c ∧ c ≤ ((n + 1000 * i : Nat) : Int) ∧ ls.length = 1 + i ∧ ∀ l ∈ ls, okB ts.length l
theorem orders_part {a s c : Int} {n : Nat} {pl : List Int} (ho : okT ts) (ht : ts.length ≤ 6) (hp : okP ts.length ps) (ha : 0 ≤ a) (hs : 0 ≤ s) (hs2 : s < 2 ^ 62) (hc : 0 ≤ c) (hc2 : c ≤ n) (hn : n < 2 ^ 37) (hpl : okB ts.length pl)
    (h : ∀ ρ, onI ts ps s n 3 ρ → nx ρ) : wS (m__law_some_5 [.lst [.int a, .int s, .int c], .fz (.tuple (ts.map thD)), .fz (.list (ps.map prD)), .fz (.int (ts.length : Int)), .lst [pLD pl], .dead, .dead, .dead, .dead, .dead, .dead, .dead, .dead, .dead, .dead, .dead, .dead]) nx rt bk ct := by
  unfold m__law_some_5
  have hb : big62 3 = true := big62_s (by decide) (by decide)
  simp [hb]
  refine wS_forI (onI ts ps s n) ⟨a, c, [pl], _, _, rfl, ha, hc, by simpa using hc2, rfl, fun l m => by simp at m; subst m; exact hpl⟩ ?_ ?_
  · rintro i x ρ ex ⟨a1, c1, ls, x5, x6, rfl, ha1, hc1, hc1', hl, hk⟩
    have hi : i < 3 := by
      have := (List.getElem?_eq_some_iff.mp ex).1
      simpa [rngD] using this
    refine ⟨_, rfl, ?_⟩
    rw [wS_seq]
    have hb : big62 (ts.length : Int) = true := big62_s (by omega) (by omega)
    have h2 : ts.length ≤ 16777216 := by omega
    unfold m__law_some_3
    simp [hb, h2, rngD_map, sizeLine]
    refine mixed_spec (n := n + 1000 * i) (xs := rngI ts.length) ha1 hs hs2 hc1 hc1' (by omega) (by simp [rngI]; omega) fun ys a2 c2 hp2 ha2 hc2 hc2' => ?_
    obtain ⟨od, rfl, hod, hlo, hall⟩ := nats_of2 hp2
    have e := q_put (ps := ps) ho (by omega) hp hod (by omega) hall
    have eo : (od.map fun t : Nat => (t : Int)).map PyData.int = od.map natD := by rw [List.map_map]; rfl
    rw [eo]
    have hlen : ls.length < 16777216 := by omega
    simp [m__law_some_4, qCall, e, fAppend, sizeLine, hlen]
    exact ⟨_, _, ⟨rfl, rfl⟩, a2, c2, ls ++ [placedG ts ps od], _, _, by rw [List.map_append]; rfl, ha2, hc2, by omega, by simp [hl]; omega, fun l m => by
      rcases List.mem_append.mp m with m | m
      · exact hk l m
      · simp at m
        subst m
        exact ⟨placedG_len, fun x mx => by have := (placed_okL (ps := ps) ho (by omega) hod hall (by omega)).2 x mx; omega⟩⟩
  · intro ρ hρ
    simp [rngD] at hρ
    exact h ρ hρ
theorem oAdd_ol {xs ys : List PD} : oAdd (.lst xs) (.fz (.list ys)) = if xs.length + ys.length ≤ sizeLine then some (.fz (.list (xs ++ ys))) else none := rfl
def mvI (ts : List (Int × Int)) (ps : List (Nat × Nat)) (s : Int) (n : Nat) (ls0 : List (List Int)) (i : Nat) (ρ : List O) : Prop := ∃ (a c : Int) (ls : List (List Int)) (x5 x6 x7 x8 x9 x10 x11 : O), ρ = [.lst [.int a, .int s, .int c], .fz (.tuple (ts.map thD)), .fz (.list (ps.map prD)), .fz (.int (ts.length : Int)), .lst ((ls0 ++ ls).map pLD), x5, x6, x7, x8, x9, x10, x11, .dead, .dead, .dead, .dead, .dead] ∧ 0 ≤ a ∧ 0 ≤ c ∧ c ≤ ((n + 2 * i : Nat) : Int) ∧ ls.length ≤ 2 * i ∧ ∀ l ∈ ls, okL ts.length l
theorem moved_part {a s c : Int} {n : Nat} {ls0 : List (List Int)} {x5 x6 : O} (ho : okT ts) (ht : ts.length ≤ 6) (ha : 0 ≤ a) (hs : 0 ≤ s) (hs2 : s < 2 ^ 62) (hc : 0 ≤ c) (hc2 : c ≤ n) (hn : n < 2 ^ 38) (hls : ∀ l ∈ ls0, okB ts.length l) (hl4 : ls0.length = 4)
    (h : ∀ ρ, mvI ts ps s n ls0 4 ρ → nx ρ) : wS (m__law_some_12 [.lst [.int a, .int s, .int c], .fz (.tuple (ts.map thD)), .fz (.list (ps.map prD)), .fz (.int (ts.length : Int)), .lst (ls0.map pLD), x5, x6, .dead, .dead, .dead, .dead, .dead, .dead, .dead, .dead, .dead, .dead]) nx rt bk ct := by
  unfold m__law_some_12
  simp
  refine wS_forI (mvI ts ps s n ls0) ⟨a, c, [], x5, x6, .dead, .dead, .dead, .dead, .dead, by simp, ha, hc, by simpa using hc2, by simp, fun l m => by cases m⟩ ?_ ?_
  · rintro i x ρ ex ⟨a1, c1, ls, x5, x6, x7, x8, x9, x10, x11, rfl, ha1, hc1, hc1', hl, hk⟩
    obtain ⟨l, ml, el, rfl⟩ := map_pLD ex
    have hi : i < 4 := by have := (List.getElem?_eq_some_iff.mp el).1; omega
    have hb := hls l ml
    refine ⟨_, rfl, ?_⟩
    unfold m__law_some_11
    have eq := oNe_ints (x := .fz (.list (l.map .int))) (y := .fz (.list [])) (l := l) (r := []) rfl rfl
    by_cases h0 : l = []
    · subst h0
      simp at eq
      simp [eq, sizeLine]
      exact ⟨_, _, ls, _, _, _, _, _, _, _, by rw [List.map_append], ha1, hc1, by omega, by omega, hk⟩
    · have hpos : 0 < l.length := List.length_pos_iff.mpr h0
      have hbl := hb.1
      simp [eq, sizeLine, h0]
      rw [wS_seq]
      simp [m__law_some_6]
      refine draw_spec ha1 hs hs2 hc1 hc1' (by omega) (by omega) (by omega) fun r a2 c2 r0 r1 ha2 hc2 hc2' => ?_
      obtain ⟨k, rfl⟩ := Int.eq_ofNat_of_zero_le r0
      have hkl : k < l.length := by omega
      simp [sizeLine]
      refine draw_spec (n := n + 2 * i + 1) ha2 hs hs2 hc2 (by omega) (by omega) (by decide) (by decide) fun r' a3 c3 r0' r1' ha3 hc3 hc3' => ?_
      obtain ⟨by_, z1, z2, z3⟩ := pickI (xs := [1, -1, 2]) (lo := -1) (hi := 2) (i := r') (by
        intro x hx
        simp at hx
        rcases hx with rfl | rfl | rfl <;> omega) r0' (by simpa using r1')
      simp at z3
      simp [z3]
      rw [wS_seq]
      have e1 := at_pl hkl
      have e2 := at_th (ts := ts) (t := k) (by omega)
      have hth := okT_at ho (t := k) (by omega)
      have hold := okL_get hb.okL (k := k) (by omega)
      have hold2 : l.getD k 0 ≤ 30000000000 := by
        rw [List.getD_eq_getElem?_getD, List.getElem?_eq_getElem hkl]
        exact (hb.2 _ (List.getElem_mem hkl)).2
      generalize l.getD k 0 = old at e1 hold hold2
      generalize ts.getD k (1, 1) = th at e2 hth
      have hm : oMul (.fz (.int by_)) (.fz (.int th.2)) = some (.fz (.int (by_ * th.2))) := oMul_r (by omega) (by omega)
      have hm1 : by_ * th.2 ≤ 128 := by
        have : by_ = -1 ∨ by_ = 0 ∨ by_ = 1 ∨ by_ = 2 := by omega
        rcases this with rfl | rfl | rfl | rfl <;> omega
      simp [m__law_some_7, e1, e2, hm]
      generalize hv : (if 0 < old + by_ * th.2 then old + by_ * th.2 else 0) = v
      have hv0 : 0 ≤ v := by subst hv; split <;> omega
      have hv1 : v ≤ 10 ^ 12 := by subst hv; split <;> omega
      have k1 := moved_ok hb.okL (by omega : k < ts.length) hv0 hv1
      have k2 := moved_ok hb.okL (by omega : k < ts.length) (v := old + 1) (by omega) (by omega)
      have g1 : (cut l none (some (k : Int))).length ≤ 1000 := by have := cut_len2 (xs := l) (lo := none) (hi := some (k : Int)); omega
      have g2 : (cut l (some ((k : Int) + 1)) none).length ≤ 1000 := by have := cut_len2 (xs := l) (lo := some ((k : Int) + 1)) (hi := none); omega
      have q1 := cut_map2 (xs := l) (lo := none) (hi := some (k : Int))
      have q2 := cut_map2 (xs := l) (lo := some ((k : Int) + 1)) (hi := none)
      generalize cut l none (some (k : Int)) = l1 at g1 k1 k2 q1
      generalize cut l (some ((k : Int) + 1)) none = l2 at g2 k1 k2 q2
      have g3 : l1.length ≤ 16777215 := by omega
      have g4 : l1.length + 1 + l2.length ≤ 16777216 := by omega
      have g7 : l1.length + (l2.length + 1) ≤ 16777216 := by omega
      have hlen : ls0.length + ls.length < 16777216 := by omega
      have hlen2 : ls0.length + (ls.length + 1) < 16777216 := by omega
      rw [wS_seq]
      simp [m__law_some_8, q1, q2, sizeLine, g3, g4, g7, fAppend, hlen]
      refine ⟨_, _, ⟨rfl, rfl⟩, ?_⟩
      rw [wS_seq]
      simp [m__law_some_9, e1]
      simp [m__law_some_10, q1, q2, sizeLine, g3, g4, g7, fAppend, hlen, hlen2]
      refine ⟨_, _, ⟨rfl, rfl⟩, ?_⟩
      refine ⟨a3, c3, ls ++ [l1 ++ v :: l2, l1 ++ (old + 1) :: l2], _, _, _, _, _, _, _, by rw [List.map_append, List.map_append, List.map_cons, List.map_cons, pLD_mid, pLD_mid]; rfl, ha3, hc3, by omega, by simp; omega, fun y m => ?_⟩
      rcases List.mem_append.mp m with m | m
      · exact hk y m
      · simp at m
        rcases m with rfl | rfl
        · exact k1
        · exact k2
  · intro ρ hρ
    simp [hl4] at hρ
    exact h ρ hρ
def brI (ts : List (Int × Int)) (x0 x1 x2 x3 x4 x5 x6 x7 x8 x9 x10 x11 : O) (i : Nat) (ρ : List O) : Prop := ∃ (m : Int) (x13 x14 : O), ρ = [x0, x1, x2, x3, x4, x5, x6, x7, x8, x9, x10, x11, .fz (.int m), x13, x14, .dead, .dead] ∧ 0 ≤ m ∧ m ≤ 64 ^ i
theorem common_part {x0 x2 x3 x4 x5 x6 x7 x8 x9 x10 x11 : O} (ho : okT ts) (ht : ts.length ≤ 6)
    (h : ∀ (m : Int) x13 x14, 0 ≤ m → m ≤ 68719476736 → nx [x0, .fz (.tuple (ts.map thD)), x2, x3, x4, x5, x6, x7, x8, x9, x10, x11, .fz (.int m), x13, x14, .dead, .dead]) :
    wS (m__law_some_14 [x0, .fz (.tuple (ts.map thD)), x2, x3, x4, x5, x6, x7, x8, x9, x10, x11, .fz (.int 1), .dead, .dead, .dead, .dead]) nx rt bk ct := by
  unfold m__law_some_14
  simp
  refine wS_forI (brI ts x0 (.fz (.tuple (ts.map thD))) x2 x3 x4 x5 x6 x7 x8 x9 x10 x11) ⟨1, _, _, rfl, by decide, by decide⟩ ?_ ?_
  · rintro i x ρ ex ⟨m, x13, x14, rfl, h0, h1⟩
    rw [List.getElem?_map] at ex
    obtain ⟨⟨sz, b⟩, ep, rfl⟩ := Option.map_eq_some_iff.mp ex
    obtain ⟨p1, p2, p3, p4⟩ := ho _ (List.mem_of_getElem? ep)
    simp only at p1 p2 p3 p4
    refine ⟨_, rfl, ?_⟩
    unfold m__law_some_13
    have hm : oMul (.fz (.int m)) (.fz (.int b)) = some (.fz (.int (m * b))) := oMul_r (by omega) (by omega)
    simp [hm]
    refine ⟨_, _, _, rfl, Int.mul_nonneg h0 (by omega), ?_⟩
    have := Int.mul_le_mul h1 p4 (by omega : (0 : Int) ≤ b) (by omega)
    rw [Int.pow_succ]
    exact this
  · rintro ρ ⟨m, x13, x14, rfl, h0, h1⟩
    simp at h1
    refine h _ _ _ h0 ?_
    have h6 : ts.length = 0 ∨ ts.length = 1 ∨ ts.length = 2 ∨ ts.length = 3 ∨ ts.length = 4 ∨ ts.length = 5 ∨ ts.length = 6 := by omega
    rcases h6 with e | e | e | e | e | e | e <;> rw [e] at h1 <;> omega
end
theorem some_spec {a s c L : Int} {n : Nat} {pl : List Int} {Q : O → List O → Prop} (ho : okT ts) (ht : ts.length ≤ 6) (hp : okP ts.length ps) (ha : 0 ≤ a) (hs : 0 ≤ s) (hs2 : s < 2 ^ 62) (hc : 0 ≤ c) (hc2 : c ≤ n) (hn : n < 2 ^ 36)
    (hf : qOf f_least [.tuple (ts.map thD), .list (ps.map prD)] = some (.tuple [.int L, .list (pl.map .int)])) (hpl : okB ts.length pl)
    (h : ∀ ds a' c', (∀ d ∈ ds, okD ts.length d) → ds.length ≤ 100 → Q (.fz (.list ds)) [.lst [.int a', .int s, .int c'], .dead, .dead]) : wF (f__law_some [.lst [.int a, .int s, .int c], .fz (.tuple (ts.map thD)), .fz (.list (ps.map prD))]) Q := by
  unfold f__law_some m__law_some
  rw [wF_defN, wS_seq]
  simp [m__law_some_1]
  rw [wS_seq]
  simp [m__law_some_2, qCall, hf, sizeLine]
  rw [wS_seq]
  refine orders_part ho ht hp ha hs hs2 hc hc2 (by omega) hpl ?_
  rintro ρ ⟨a1, c1, ls0, x5, x6, rfl, ha1, hc1, hc1', hl, hk⟩
  rw [wS_seq]
  refine moved_part (n := n + 1000 * 3) ho ht ha1 hs hs2 hc1 hc1' (by omega) hk (by omega) ?_
  rintro ρ ⟨a2, c2, ls, x5, x6, x7, x8, x9, x10, x11, rfl, ha2, hc2, hc2', hl2, hk2⟩
  rw [wS_seq]
  simp only [wS_set, wM_lift, qC_eq]
  refine ⟨_, rfl, ?_⟩
  rw [wS_seq]
  simp
  refine common_part ho ht fun m x13 x14 m0 m1 => ?_
  cases ls0 with
  | nil => simp at hl
  | cons l0 ls0 =>
    have hb0 := hk l0 List.mem_cons_self
    have hl0 : l0.length ≤ 6 := by rw [hb0.1]; exact ht
    have l1 : ∀ (y0 y1 y2 y3 y4 y5 y6 y7 y8 y9 y10 y11 y13 y14 : O), lcGo (fName 16) qYes (qOp oAdd (qVar 16) (qVar 12)) [y0, y1, y2, y3, y4, y5, y6, y7, y8, y9, y10, y11, .fz (.int m), y13, y14, .dead, .dead] (l0.map .int) = some ((l0.map fun x => x + m).map .int) := fun y0 y1 y2 y3 y4 y5 y6 y7 y8 y9 y10 y11 y13 y14 => by
      have h := lcGo_map (f := fName 16) (e := qOp oAdd (qVar 16) (qVar 12)) (ρ := [y0, y1, y2, y3, y4, y5, y6, y7, y8, y9, y10, y11, .fz (.int m), y13, y14, .dead, .dead]) (h := fun x => match x with | .int u => .int (u + m) | d => d) (xs := l0.map PyData.int) fun x mx => by
        obtain ⟨u, _, rfl⟩ := List.mem_map.mp mx
        exact ⟨_, rfl, by simp⟩
      rw [h, List.map_map, List.map_map]
      rfl
    have hz : l0.length ≤ 16777216 := by omega
    rw [wS_seq]
    simp [m__law_some_15, pLD, l1, sizeLine, hz]
    have hl' : ls0.length = 3 := by simpa using hl
    have g1 : ls0.length + ls.length + 1 + 2 ≤ 16777216 := by omega
    have g2 : ls0.length + ls.length + 1 + 1 + 1 ≤ 16777216 := by omega
    have g3 : ls0.length + ls.length + (1 + 1) + 1 ≤ 16777216 := by omega
    simp [m__law_some_16, pLD, sizeLine, hz, g1, g2, g3, oAdd_ol]
    refine h _ _ _ (fun d md => ?_) ?_ 
    · have kL : ∀ l, okL ts.length l → okD ts.length (pLD l) := fun l h => ⟨l, .inl rfl, h.1, fun x m => by have := h.2 x m; omega⟩
      simp at md
      rcases md with rfl | ⟨l, ml, rfl⟩ | ⟨l, ml, rfl⟩ | rfl | rfl
      · exact kL l0 hb0.okL
      · exact kL l (hk l (List.mem_cons_of_mem _ ml)).okL
      · exact kL l (hk2 l ml)
      · exact ⟨l0, .inr rfl, hb0.1, fun x m => by have := hb0.2 x m; omega⟩
      · refine ⟨l0.map fun x => x + m, .inl (by rw [List.map_map]), by rw [List.length_map]; exact hb0.1, fun x mx => ?_⟩
        obtain ⟨y, my, rfl⟩ := List.mem_map.mp mx
        have := hb0.2 y my
        omega
    · simp
      omega
theorem kept_d {d : PD} {n : Nat} (ho : okT ts) (ht : ts.length ≤ 1000) (hp : okP ts.length ps) (hs : ps.length ≤ 100000) (hd : okD n d) (hn : n ≤ 1000) : ∃ z, oStr [.fz (.list [.tuple (ts.map thD), .list (ps.map prD), d])] = some (.fz (.str z)) := by
  have f1 := ths_fine ho
  have f2 := prs_fine hp (by omega)
  have f3 : Fine 2 (n * 23 + 3) d := by
    obtain ⟨l, hl, hl2, hk⟩ := hd
    have hk2 : ∀ x ∈ l, x.natAbs < 2 ^ 64 := fun x m => by have := hk x m; omega
    rcases hl with rfl | rfl
    · have := ints_fine hk2
      rw [hl2] at this
      exact this.mono (by decide) (by omega)
    · have := (FineA.all (ds := l.map .int) (h := 0) (n := 21) (fun d m => by
        obtain ⟨q, mq, rfl⟩ := List.mem_map.mp m
        exact Fine.int (hk2 q mq))).tuple
      rw [List.length_map, hl2] at this
      exact this.mono (by decide) (by omega)
  have f4 := (FineA.cons f1 (FineA.cons f2 (FineA.cons f3 FineA.nil))).list
  exact ⟨_, oStr_seq f4 (by decide) (by unfold sizeLine; omega) rfl⟩
section
variable {nx bk ct : List O → Prop} {rt : O → List O → Prop} {x0 x1 x2 x3 x7 x8 x9 x10 : O}
theorem look_spec {L : Int} {d : PD} (ho : okT ts) (ht : ts.length ≤ 6) (hp : okP ts.length ps) (hs : ps.length ≤ 6000) (pl0 : List Int) (hf : qOf f_least [.tuple (ts.map thD), .list (ps.map prD)] = some (.tuple [.int L, .list (pl0.map .int)])) (hd : okD ts.length d)
    (h : ∀ x8 x9 x10, nx [x0, x1, x2, x3, .fz (.tuple (ts.map thD)), .fz (.list (ps.map prD)), .fz (.int L), .fz d, x8, x9, x10]) :
    wS (sSeq m_law_5 (sSeq m_law_6 (sSeq m_law_7 (sSeq m_law_8 (sSeq m_law_9 m_law_10)))) [x0, x1, x2, x3, .fz (.tuple (ts.map thD)), .fz (.list (ps.map prD)), .fz (.int L), .fz d, x8, x9, x10]) nx rt bk ct := by
  obtain ⟨z, hz⟩ := kept_d ho (by omega) hp (by omega) hd (by omega)
  have e1 := q_is_least (d := d) ho (by omega) hp hf
  have e2 := q_law_placing (d := d) ho hp (by omega)
  rw [wS_seq]
  simp [m_law_5, hz, sizeLine]
  rw [wS_seq]
  simp [m_law_6, qCall, e1]
  rw [wS_seq]
  simp [m_law_7, qCall, e2]
  rw [wS_seq]
  cases hpo : placingOk ts ps d with
  | false =>
    have e3 : leastOk ts ps L d = false := by simp [leastOk, hpo]
    simp [m_law_8]
    rw [wS_seq]
    simp [m_law_9, e3]
    simp [m_law_10, hz, sizeLine]
    exact h _ _ _
  | true =>
    have h1 : placesOk ts d = true := by
      unfold placingOk at hpo
      simp at hpo
      exact hpo.1
    obtain ⟨pl, rfl, hl⟩ := placesOk_ints h1
    have e3 := q_lawheight (ts := ts) (pl := pl) (by omega) hl
    have e4 : leastOk ts ps L (.list (pl.map .int)) = decide (hgtG ts pl = L) := by simp [leastOk, hpo]
    simp [m_law_8, qCall, e3]
    rw [wS_seq]
    simp [m_law_9, e4]
    simp [m_law_10, hz, sizeLine]
    exact h _ _ _
end
/-- no least height is great -/
theorem least_low (ho : okT ts) (hn : ts.length ≤ 8) {L : Int} {pl : List Int} (hL : isL ts ps L) (hpl : Pl ts ps pl) (hh : HtLe ts pl L) : okB ts.length pl := by
  have hpl0 : Pl ts ps (placedG ts ps (List.range ts.length)) := placed_pl ho ⟨List.nodup_range, fun t m => List.mem_range.mp m⟩ fun t h => List.mem_range.mpr h
  have hb := placed_okL (ps := ps) (od := List.range ts.length) ho hn ⟨List.nodup_range, fun t m => List.mem_range.mp m⟩ (fun t h => List.mem_range.mpr h) (by simpa using hn)
  have hL2 : L ≤ 21000000000 := by
    refine hL.2 _ _ hpl0 ⟨by omega, fun t ht => ?_⟩
    have e : t < (placedG ts ps (List.range ts.length)).length := by rw [hb.1]; exact ht
    have h1 := hb.2 _ (List.getElem_mem e)
    have h2 := okT_th ho ht
    have h3 : (placedG ts ps (List.range ts.length)).getD t 0 = (placedG ts ps (List.range ts.length))[t] := by rw [List.getD_eq_getElem?_getD, List.getElem?_eq_getElem e]; rfl
    rw [h3]
    omega
  refine ⟨hpl.1, fun x mx => ?_⟩
  obtain ⟨t, ht, rfl⟩ := getD_mem mx
  rw [hpl.1] at ht
  have h1 := (hpl.2.1 t ht).1
  have h2 := hh.2 t ht
  have h3 := okT_th ho ht
  omega
theorem body_spec {nx bk ct : List O → Prop} {rt : O → List O → Prop} {x0 x1 x4 x5 x6 x7 x8 x9 x10 : O} {m a1 s c1 : Int} (m0 : 0 ≤ m) (m6 : m ≤ 6) (ha1 : 0 ≤ a1) (hs : 0 ≤ s) (hs2 : s < 2 ^ 62) (hc1 : 0 ≤ c1) (hc1' : c1 ≤ ((2 : Nat) : Int))
    (h : ∀ x1 x2 x3 x4 x5 x6 x7 x8 x9 x10, nx [x0, x1, x2, x3, x4, x5, x6, x7, x8, x9, x10]) : wS (sSeq m_law_3 (sSeq m_law_4 m_law_11) [x0, x1, .lst [.int a1, .int s, .int c1], .fz (.int m), x4, x5, x6, x7, x8, x9, x10]) nx rt bk ct := by
  obtain ⟨mm, rfl⟩ := Int.eq_ofNat_of_zero_le m0
  have hmm : mm ≤ 6 := by omega
  rw [wS_seq]
  simp [m_law_3]
  refine few_spec (n := 2) ha1 hs hs2 hc1 hc1' (by decide) (by omega) (by omega) fun ts a3 c3 ok hts ha3 hc3 hc3' => ?_
  have hts : ts.length = mm := by omega
  simp
  refine pairs_spec (n := 6003) ha3 hs hs2 hc3 hc3' (by decide) (by omega) fun ps a4 c4 okp hps ha4 hc4 hc4' => ?_
  have okp : okP ts.length ps := by rw [hts]; exact okp
  have hps : ps.length ≤ 6000 := by omega
  simp
  rw [wS_seq]
  obtain ⟨L, hL, eL⟩ := q_lawleast ok (by omega) okp
  simp [m_law_4, qCall, eL]
  have hw := least_spec (Q := fun o outs => ∃ L pl, isL ts ps L ∧ Pl ts ps pl ∧ HtLe ts pl L ∧ o = .ntp [.fz (.int L), .lst (pl.map .int)] ∧ outs = [.dead, .dead]) ok (by omega) okp (by omega) fun L pl g1 g2 g3 => ⟨L, pl, g1, g2, g3, rfl, rfl⟩
  obtain ⟨L', pl, hL', hpl, hh, hf⟩ : ∃ L pl, isL ts ps L ∧ Pl ts ps pl ∧ HtLe ts pl L ∧ qOf f_least [.tuple (ts.map thD), .list (ps.map prD)] = some (.tuple [.int L, .list (pl.map .int)]) := by
    unfold qOf
    cases e : f_least (([.tuple (ts.map thD), .list (ps.map prD)] : List PD).map .fz) with
    | ret o outs =>
      have e' : f_least [.fz (.tuple (ts.map thD)), .fz (.list (ps.map prD))] = .ret o outs := e
      rw [e'] at hw
      obtain ⟨L, pl, g1, g2, g3, rfl, rfl⟩ := hw
      exact ⟨L, pl, g1, g2, g3, rfl⟩
    | _ =>
      have e' : f_least [.fz (.tuple (ts.map thD)), .fz (.list (ps.map prD))] = _ := e
      rw [e'] at hw
      exact hw.elim
  have eLL := isL_uniq hL hL'
  subst eLL
  have hlow := least_low ok (by omega) hL hpl hh
  unfold m_law_11
  simp
  refine some_spec (n := 20000) ok (by omega) okp ha4 hs hs2 hc4 (by omega) (by decide) hf hlow fun ds a5 c5 hds hdl => ?_
  simp
  refine wS_forI (fun i ρ => ∃ x1 x2 x3 x7 x8 x9 x10, ρ = [x0, x1, x2, x3, .fz (.tuple (ts.map thD)), .fz (.list (ps.map prD)), .fz (.int L), x7, x8, x9, x10]) ⟨_, _, _, _, _, _, _, rfl⟩ ?_ ?_
  · rintro i d ρ ex ⟨x1, x2, x3, x7, x8, x9, x10, rfl⟩
    refine ⟨_, rfl, ?_⟩
    exact look_spec ok (by omega) okp hps pl hf (hds d (List.mem_of_getElem? ex)) fun x8 x9 x10 => ⟨_, _, _, _, _, _, _, rfl⟩
  · rintro ρ ⟨x1, x2, x3, x7, x8, x9, x10, rfl⟩
    exact h _ _ _ _ _ _ _ _ _ _
end
theorem plain_law (ns : List Int) (h : ns.length ≤ 63) : ∃ outs, f_law [.fz (.list (ns.map .int))] = .ret (.fz (.bool true)) outs := by
  apply law_of
  unfold f_law m_law
  rw [wF_defN, wS_seq]
  have hb : big62 (1 + if (ns.length : Int) < 3 then (ns.length : Int) else 3) = true := big62_s (by split <;> omega) (by split <;> omega)
  simp [m_law_12, hb]
  refine wS_forI (fun i ρ => ∃ x1 x2 x3 x4 x5 x6 x7 x8 x9 x10, ρ = [.fz (.list (ns.map .int)), x1, x2, x3, x4, x5, x6, x7, x8, x9, x10]) ⟨_, _, _, _, _, _, _, _, _, _, rfl⟩ ?_ ?_
  · rintro i x ρ ex ⟨x1, x2, x3, x4, x5, x6, x7, x8, x9, x10, rfl⟩
    obtain ⟨rfl, hi⟩ := rngD_at ex
    have hi7 : (i : Int) ≤ 7 := by
      split at hi <;> omega
    refine ⟨_, rfl, ?_⟩
    rw [wS_seq]
    simp [m_law_1]
    refine tape_spec (by omega) (by omega) fun a s ha hs hs2 => ?_
    rw [wS_seq]
    unfold m_law_2
    by_cases h0 : i = 0
    · subst h0
      simp
      refine draw_spec (n := 0) ha hs hs2 (by decide) (by decide) (by decide) (by decide) (by decide) fun r a1 c1 r0 r1 ha1 hc1 hc1' => ?_
      by_cases hr : r = 0
      · simp [hr]
        exact body_spec (by omega) (by omega) ha1 hs hs2 hc1 (by omega) fun _ _ _ _ _ _ _ _ _ _ => ⟨_, _, _, _, _, _, _, _, _, _, rfl⟩
      · simp [hr]
        refine draw_spec (n := 1) ha1 hs hs2 hc1 hc1' (by decide) (by decide) (by decide) fun w a2 c2 w0 w1 ha2 hc2 hc2' => ?_
        simp
        exact body_spec (by omega) (by omega) ha2 hs hs2 hc2 hc2' fun _ _ _ _ _ _ _ _ _ _ => ⟨_, _, _, _, _, _, _, _, _, _, rfl⟩
    · simp [h0]
      refine draw_spec (n := 1) ha hs hs2 (by decide) (by decide) (by decide) (by decide) (by decide) fun w a2 c2 w0 w1 ha2 hc2 hc2' => ?_
      simp
      exact body_spec (by omega) (by omega) ha2 hs hs2 hc2 hc2' fun _ _ _ _ _ _ _ _ _ _ => ⟨_, _, _, _, _, _, _, _, _, _, rfl⟩
  · rintro ρ ⟨x1, x2, x3, x4, x5, x6, x7, x8, x9, x10, rfl⟩
    simp
end FM
open PySem PySem.W PySem.Calls PyProof.Rows
theorem PySem.Challenge.cw_frameshare_k29_which_are_least_holds : PySem.Challenge.rw_frameshare_k29_which_are_least.Holds := by
  w_on; o_law
  refine HandSHeadRun.head_any (r := OpenLaw.row PySem.Challenge.rw_frameshare_k29_which_are_least) (q := view (OpenLaw.row PySem.Challenge.rw_frameshare_k29_which_are_least).prog [36]) (H := FM.hhk) (ob := FM.hob) (M := 2000) (loose := FM.hloose) (d := HandSHeadRun.topDef (OpenLaw.row PySem.Challenge.rw_frameshare_k29_which_are_least).prog 36) (kwd := []) FM.hob_eq
    (by kernel_rfl) (fun s => by kernel_rfl) FM.hrun (by kernel_rfl) (by kernel_rfl) (by kernel_rfl) (by rfl) (by first | assumption | decide +kernel) (by decide +kernel) ⟨rfl, rfl, rfl, rfl, rfl, by decide +kernel⟩ ?hw ?hc
  case hw => w_witness2
  case hc =>
    refine FM.walk_ofG (l := PySem.Challenge.rw_frameshare_k29_which_are_least) (n := 63) (k := 51) (x := "_law_script") (CX := fun w => FM.CXg PySem.Challenge.rw_frameshare_k29_which_are_least.prog w) rfl (by decide) (by kernel_rfl) ⟨rfl, by decide, by decide⟩ ?F (fun w H s e s' z => FM.cx_none H s e s' z)
    intro w mg fa h Y G hmg0
    obtain ⟨K, KX, c⟩ := Y
    have hmg : mg ("law" : PySem.Str) = some (.ref fa) := by
      have e : (HandSHeadRun.topDef (OpenLaw.row PySem.Challenge.rw_frameshare_k29_which_are_least).prog 36).name = ("law" : PySem.Str) := by kernel_rfl
      rw [← e]
      exact hmg0
    obtain ⟨fd, hb, hF⟩ := FM.hfacts (P := PySem.Challenge.rw_frameshare_k29_which_are_least.prog) (w := w) KX G hmg c
    exact ⟨K, ⟨K, FM.hcl K⟩, fd, FM.f_law, KX, rfl, hb, FM.plain_law, fun base _ _ => hF base⟩

