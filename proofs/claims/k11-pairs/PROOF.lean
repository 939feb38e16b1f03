import PyProof.Rows.All
import Wide.All
import OpenK.AllK
import Wide.FinOn
import HandS.ForMost
import HandS.Wide
import HandS.IsInst
import HandS.TupAny
import PyProof.AutoListH
import PyProof.ListMulRoad
import HandS.Deep
import HandS.Style
import PyProof.P3In
import HandS.Conv
import HandS.RaiseMore
import PyProof.ReprRoads
import PyProof.ReprRoom
import HandS.Walk
import HandS.Zip
import HandS.HeadHook1
import HandS.HeadHook2
import HandS.Head2
import HandS.HeadEnd
import HandS.Exc
import HandS.ExcOwn
import HandS.Words
import HandS.WordsExc
import HandS.Defaults
import KE.GoesNew
import PyProof.P3Eq
import KE.SortData
import HandS.SortInts
import HandS.Small
import KE.DataMinMax
import HandS.SortKw
import HandS.TryOnly
import HandS.SetFor
import HandS.Strs
import HandS.More
import HandS.Codes
import HandS.HeadHook4
import KE.GoesEnum
import PyProof.EnumMake
import HandS.TupMul
import PySem.Challenge.RW_frameshare_k11_pairs_that_clash
set_option Elab.async false
set_option linter.all false
set_option maxRecDepth 100000
set_option maxHeartbeats 4000000
namespace FM
open PySem L2

abbrev PD := PyData
abbrev Frag := PySem.W.Frag

def keyD : Key → PD
  | .inl i => .int i
  | .inr x => .str x
def kp (p : Key × PD) : PD × PD := (keyD p.1, p.2)
def tp (p : List Key × PD) : PD × PD := (.tuple (p.1.map keyD), p.2)

/-! ### frozen data: what stands at F -/
mutual
inductive Rep (K : Frag) (F : Hp) : V → PD → Prop
  | non : Rep K F .non .none
  | bl (b : Bool) : Rep K F (.bl b) (.bool b)
  | int (i : Int) : Rep K F (.int i) (.int i)
  | str (x : Str) : Rep K F (.str x) (.str x)
  | lst {a : Addr} {vs : List V} {ds : List PD} : SqL K F a vs → Reps K F vs ds → Rep K F (.ref a) (.list ds)
  | tup {a : Addr} {vs : List V} {ds : List PD} : F a = some (.tup vs) → Reps K F vs ds → Rep K F (.ref a) (.tuple ds)
  | dic {a : Addr} {kvs : List (Key × V)} {ds : List (Key × PD)} {pd : PD} : Rd F a (.dK kvs) → RepK K F kvs ds → pd = .dict (ds.map kp) → Rep K F (.ref a) pd
  | dit {a : Addr} {kvs : List (List Key × V)} {ds : List (List Key × PD)} {pd : PD} : Rd F a (.dT kvs) → RepT K F kvs ds → pd = .dict (ds.map tp) → Rep K F (.ref a) pd
inductive Reps (K : Frag) (F : Hp) : List V → List PD → Prop
  | nil : Reps K F [] []
  | cons {v : V} {d : PD} {vs : List V} {ds : List PD} : Rep K F v d → Reps K F vs ds → Reps K F (v :: vs) (d :: ds)
inductive RepK (K : Frag) (F : Hp) : List (Key × V) → List (Key × PD) → Prop
  | nil : RepK K F [] []
  | cons {k : Key} {v : V} {d : PD} {vs : List (Key × V)} {ds : List (Key × PD)} : Rep K F v d → RepK K F vs ds → RepK K F ((k, v) :: vs) ((k, d) :: ds)
inductive RepT (K : Frag) (F : Hp) : List (List Key × V) → List (List Key × PD) → Prop
  | nil : RepT K F [] []
  | cons {k : List Key} {v : V} {d : PD} {vs : List (List Key × V)} {ds : List (List Key × PD)} : Rep K F v d → RepT K F vs ds → RepT K F ((k, v) :: vs) ((k, d) :: ds)
end

theorem rd_sub {F F' : Hp} {a : Addr} {u : HO} (s : Same F F') (h : Rd F a u) : Rd F' a u := by
  rcases h with h | ⟨o, h⟩
  · exact .inl (s _ _ h)
  · exact .inr ⟨o, s _ _ h⟩
theorem sqL_sub {K : Frag} {F F' : Hp} {a : Addr} {vs : List V} (s : Same F F') (h : SqL K F a vs) : SqL K F' a vs := h.imp (rd_sub s) id
theorem sqT_sub {K : Frag} {F F' : Hp} {a : Addr} {vs : List V} (s : Same F F') (h : SqT K F a vs) : SqT K F' a vs := h.imp (rd_sub s) id

mutual
theorem Rep.sub {K : Frag} {F F' : Hp} (s : Same F F') : ∀ {v : V} {d : PD}, Rep K F v d → Rep K F' v d
  | _, _, .non => .non
  | _, _, .bl b => .bl b
  | _, _, .int i => .int i
  | _, _, .str x => .str x
  | _, _, .lst h r => .lst (sqL_sub s h) (Reps.sub s r)
  | _, _, .tup h r => .tup (s _ _ h) (Reps.sub s r)
  | _, _, .dic h r e => .dic (rd_sub s h) (RepK.sub s r) e
  | _, _, .dit h r e => .dit (rd_sub s h) (RepT.sub s r) e
theorem Reps.sub {K : Frag} {F F' : Hp} (s : Same F F') : ∀ {v : List V} {d : List PD}, Reps K F v d → Reps K F' v d
  | _, _, .nil => .nil
  | _, _, .cons h r => .cons (Rep.sub s h) (Reps.sub s r)
theorem RepK.sub {K : Frag} {F F' : Hp} (s : Same F F') : ∀ {v : List (Key × V)} {d : List (Key × PD)}, RepK K F v d → RepK K F' v d
  | _, _, .nil => .nil
  | _, _, .cons h r => .cons (Rep.sub s h) (RepK.sub s r)
theorem RepT.sub {K : Frag} {F F' : Hp} (s : Same F F') : ∀ {v : List (List Key × V)} {d : List (List Key × PD)}, RepT K F v d → RepT K F' v d
  | _, _, .nil => .nil
  | _, _, .cons h r => .cons (Rep.sub s h) (RepT.sub s r)
end

/-- F is a part of H, but for locks -/
def FLe (F H : Hp) : Prop := ∀ a u, F a = some u → H a = some u ∨ (Mut (some u) ∧ ∃ o, H a = some (.frz o u))
theorem rd_le {F H : Hp} {a : Addr} {u : HO} (s : FLe F H) (h : Rd F a u) : Rd H a u := by
  rcases h with h | ⟨o, h⟩
  · rcases s _ _ h with q | ⟨_, o, q⟩
    · exact .inl q
    · exact .inr ⟨o, q⟩
  · rcases s _ _ h with q | ⟨m, _⟩
    · exact .inr ⟨o, q⟩
    · exact m.elim
theorem tup_le {F H : Hp} {a : Addr} {vs : List V} (s : FLe F H) (h : F a = some (.tup vs)) : H a = some (.tup vs) := by
  rcases s _ _ h with q | ⟨m, _⟩
  · exact q
  · exact m.elim
theorem sqL_le {K : Frag} {F H : Hp} {a : Addr} {vs : List V} (s : FLe F H) (h : SqL K F a vs) : SqL K H a vs := h.imp (rd_le s) id
theorem sqT_le {K : Frag} {F H : Hp} {a : Addr} {vs : List V} (s : FLe F H) (h : SqT K F a vs) : SqT K H a vs := h.imp (rd_le s) id

/-- a tuple of ints and texts alone -/
def gnd (u : HO) : Prop := ∃ k : List Key, u = .tup (k.map kV)
/-- something stands at a that is no such tuple -/
def Th (H : Hp) (a : Addr) : Prop := H a ≠ none ∧ ∀ u, gnd u → H a ≠ some u
/-- the heap has grown -/
structure Xt (F H F' H' : Hp) : Prop where
  ex : Same H H'
  sub : Same F F'
  fle : FLe F' H'
  fresh : ∀ a u, F' a = some u → F a = some u ∨ H a = none ∨ (gnd u ∧ H a = some u)
theorem Xt.refl {F H : Hp} (h : FLe F H) : Xt F H F H := ⟨Same.refl _, Same.refl _, h, fun _ _ e => .inl e⟩
theorem none_back {H H' : Hp} (s : Same H H') {a : Addr} (h : H' a = none) : H a = none := s.free h
theorem Xt.trans {F H F1 H1 F2 H2 : Hp} (x : Xt F H F1 H1) (y : Xt F1 H1 F2 H2) : Xt F H F2 H2 :=
  ⟨x.ex.trans y.ex, x.sub.trans y.sub, y.fle, fun a u e => by
    rcases y.fresh a u e with q | q | ⟨g, q⟩
    · exact x.fresh a u q
    · exact .inr (.inl (none_back x.ex q))
    · cases w : H a with
      | none => exact .inr (.inl rfl)
      | some z =>
        have := x.ex a z w
        rw [q] at this
        cases this
        exact .inr (.inr ⟨g, rfl⟩)⟩
theorem FLe.ex {F H H' : Hp} (f : FLe F H) (s : Same H H') : FLe F H' := fun a u e => by
  rcases f a u e with q | ⟨m, o, q⟩
  · exact .inl (s _ _ q)
  · exact .inr ⟨m, o, s _ _ q⟩
theorem same_upd {H : Hp} {p : Addr} {o : HO} (h : H p = none) : Same H (upd H p o) := fun a u e => by
  rw [upd_ne (ne_of_none e h)]
  exact e
/-- a new frozen object -/
theorem Xt.new {F H : Hp} {p : Addr} {o : HO} (f : FLe F H) (h : H p = none) : Xt F H (upd F p o) (upd H p o) := by
  have hF : F p = none := by
    cases e : F p with
    | none => rfl
    | some u =>
      rcases f p u e with q | ⟨_, o, q⟩
      · rw [h] at q; cases q
      · rw [h] at q; cases q
  refine ⟨same_upd h, same_upd hF, fun a u e => ?_, fun a u e => ?_⟩
  · by_cases ha : a = p
    · subst ha
      rw [upd_same] at e ⊢
      exact .inl e
    · rw [upd_ne ha] at e ⊢
      exact f a u e
  · by_cases ha : a = p
    · subst ha
      exact .inr (.inl h)
    · rw [upd_ne ha] at e
      exact .inl e
/-- a new object, not frozen -/
theorem Xt.own {F H : Hp} {p : Addr} {o : HO} (f : FLe F H) (h : H p = none) : Xt F H F (upd H p o) := ⟨same_upd h, Same.refl _, f.ex (same_upd h), fun _ _ e => .inl e⟩
theorem fle_none {F H : Hp} {p : Addr} (f : FLe F H) (h : H p = none) : F p = none := by
  cases e : F p with
  | none => rfl
  | some u =>
    rcases f p u e with q | ⟨_, o, q⟩
    · rw [h] at q; cases q
    · rw [h] at q; cases q

/-! ### owned things -/
inductive O where
  | fz (d : PD)
  | lst (ds : List PD)
  | dic (kvs : List (Key × PD))
  | dit (kvs : List (List Key × PD))
  | nst (os : List O)
  | ntp (os : List O)
  | ndc (kvs : List (Key × O))
  | ins (c : Nat) (fs : List (Str × O))
  | ktp (ds : List PD)
  | dead
instance : Inhabited O := ⟨.dead⟩

/-- K: the written part; cl: the classes' addresses -/
structure Kc where
  K : Frag
  cl : Nat → Addr

mutual
inductive Own (k : Kc) (F H : Hp) : V → O → List Addr → Prop
  | fz {v : V} {d : PD} : Rep k.K F v d → Own k F H v (.fz d) []
  | lst {a : Addr} {vs : List V} {ds : List PD} : Rd H a (.lst vs) → Reps k.K F vs ds → Own k F H (.ref a) (.lst ds) [a]
  | dic {a : Addr} {vs : List (Key × V)} {ds : List (Key × PD)} : Rd H a (.dK vs) → RepK k.K F vs ds → Own k F H (.ref a) (.dic ds) [a]
  | dit {a : Addr} {vs : List (List Key × V)} {ds : List (List Key × PD)} : Rd H a (.dT vs) → RepT k.K F vs ds → Own k F H (.ref a) (.dit ds) [a]
  | nst {a : Addr} {vs : List V} {os : List O} {S : List Addr} : Rd H a (.lst vs) → Owns k F H vs os S → Own k F H (.ref a) (.nst os) (a :: S)
  | ntp {a : Addr} {vs : List V} {os : List O} {S : List Addr} : H a = some (.tup vs) → (∀ z : List Key, vs ≠ z.map kV) → Owns k F H vs os S → Own k F H (.ref a) (.ntp os) (a :: S)
  | ndc {a : Addr} {vs : List (Key × V)} {os : List (Key × O)} {S : List Addr} : Rd H a (.dK vs) → OwnK k F H vs os S → Own k F H (.ref a) (.ndc os) (a :: S)
  | ins {a dx : Addr} {c : Nat} {vs : List (Str × V)} {os : List (Str × O)} {S : List Addr} : H a = some (.ins (k.cl c) dx vs) → OwnF k F H vs os S → Own k F H (.ref a) (.ins c os) (a :: S)
  | ktp {a : Addr} {vs : List V} {ds : List PD} : (∀ G, SqT k.K G a vs) → Reps k.K F vs ds → Own k F H (.ref a) (.ktp ds) []
  | dead {v : V} : Own k F H v .dead []
inductive Owns (k : Kc) (F H : Hp) : List V → List O → List Addr → Prop
  | nil : Owns k F H [] [] []
  | cons {v : V} {o : O} {vs : List V} {os : List O} {S T : List Addr} : Own k F H v o S → Owns k F H vs os T → Owns k F H (v :: vs) (o :: os) (S ++ T)
inductive OwnK (k : Kc) (F H : Hp) : List (Key × V) → List (Key × O) → List Addr → Prop
  | nil : OwnK k F H [] [] []
  | cons {x : Key} {v : V} {o : O} {vs : List (Key × V)} {os : List (Key × O)} {S T : List Addr} : Own k F H v o S → OwnK k F H vs os T → OwnK k F H ((x, v) :: vs) ((x, o) :: os) (S ++ T)
inductive OwnF (k : Kc) (F H : Hp) : List (Str × V) → List (Str × O) → List Addr → Prop
  | nil : OwnF k F H [] [] []
  | cons {x : Str} {v : V} {o : O} {vs : List (Str × V)} {os : List (Str × O)} {S T : List Addr} : Own k F H v o S → OwnF k F H vs os T → OwnF k F H ((x, v) :: vs) ((x, o) :: os) (S ++ T)
end

/-- what stands at S is the same -/
def At (S : List Addr) (H H' : Hp) : Prop := ∀ a ∈ S, ∀ u, H a = some u → H' a = some u
theorem At.of {S : List Addr} {H H' : Hp} (s : Same H H') : At S H H' := fun a _ u e => s a u e
theorem At.mono {S T : List Addr} {H H' : Hp} (h : ∀ a ∈ S, a ∈ T) (t : At T H H') : At S H H' := fun a m => t a (h a m)
theorem At.left {S T : List Addr} {H H' : Hp} (t : At (S ++ T) H H') : At S H H' := t.mono fun _ m => List.mem_append_left _ m
theorem At.right {S T : List Addr} {H H' : Hp} (t : At (S ++ T) H H') : At T H H' := t.mono fun _ m => List.mem_append_right _ m
theorem At.tail {a : Addr} {T : List Addr} {H H' : Hp} (t : At (a :: T) H H') : At T H H' := t.mono fun _ m => List.mem_cons_of_mem _ m
theorem At.rd {S : List Addr} {H H' : Hp} {a : Addr} {u : HO} (t : At S H H') (m : a ∈ S) (h : Rd H a u) : Rd H' a u := by
  rcases h with h | ⟨o, h⟩
  · exact .inl (t a m _ h)
  · exact .inr ⟨o, t a m _ h⟩

mutual
theorem Own.mono {k : Kc} {F F' H H' : Hp} (s : Same F F') : ∀ {v : V} {o : O} {S : List Addr}, At S H H' → Own k F H v o S → Own k F' H' v o S
  | _, _, _, _, .fz h => .fz (h.sub s)
  | _, _, _, t, .lst h r => .lst (t.rd (by simp) h) (r.sub s)
  | _, _, _, t, .dic h r => .dic (t.rd (by simp) h) (r.sub s)
  | _, _, _, t, .dit h r => .dit (t.rd (by simp) h) (r.sub s)
  | _, _, _, t, .nst h r => .nst (t.rd (by simp) h) (Owns.mono s t.tail r)
  | _, _, _, t, .ntp h g r => .ntp (t _ (by simp) _ h) g (Owns.mono s t.tail r)
  | _, _, _, t, .ndc h r => .ndc (t.rd (by simp) h) (OwnK.mono s t.tail r)
  | _, _, _, t, .ins h r => .ins (t _ (by simp) _ h) (OwnF.mono s t.tail r)
  | _, _, _, _, .ktp h r => .ktp h (r.sub s)
  | _, _, _, _, .dead => .dead
theorem Owns.mono {k : Kc} {F F' H H' : Hp} (s : Same F F') : ∀ {v : List V} {o : List O} {S : List Addr}, At S H H' → Owns k F H v o S → Owns k F' H' v o S
  | _, _, _, _, .nil => .nil
  | _, _, _, t, .cons h r => .cons (Own.mono s t.left h) (Owns.mono s t.right r)
theorem OwnK.mono {k : Kc} {F F' H H' : Hp} (s : Same F F') : ∀ {v : List (Key × V)} {o : List (Key × O)} {S : List Addr}, At S H H' → OwnK k F H v o S → OwnK k F' H' v o S
  | _, _, _, _, .nil => .nil
  | _, _, _, t, .cons h r => .cons (Own.mono s t.left h) (OwnK.mono s t.right r)
theorem OwnF.mono {k : Kc} {F F' H H' : Hp} (s : Same F F') : ∀ {v : List (Str × V)} {o : List (Str × O)} {S : List Addr}, At S H H' → OwnF k F H v o S → OwnF k F' H' v o S
  | _, _, _, _, .nil => .nil
  | _, _, _, t, .cons h r => .cons (Own.mono s t.left h) (OwnF.mono s t.right r)
end

/-- slots -/
inductive Envs (k : Kc) (F H : Hp) : L2.St → List O → List Addr → Prop
  | nil : Envs k F H [] [] []
  | dead {x : Option V} {σ : L2.St} {ρ : List O} {S : List Addr} : Envs k F H σ ρ S → Envs k F H (x :: σ) (.dead :: ρ) S
  | cons {v : V} {o : O} {σ : L2.St} {ρ : List O} {S T : List Addr} : Own k F H v o S → Envs k F H σ ρ T → Envs k F H (some v :: σ) (o :: ρ) (S ++ T)
theorem Envs.mono {k : Kc} {F F' H H' : Hp} (s : Same F F') : ∀ {σ : L2.St} {ρ : List O} {S : List Addr}, At S H H' → Envs k F H σ ρ S → Envs k F' H' σ ρ S
  | _, _, _, _, .nil => .nil
  | _, _, _, t, .dead r => .dead (Envs.mono s t r)
  | _, _, _, t, .cons h r => .cons (Own.mono s t.left h) (Envs.mono s t.right r)
theorem Envs.length {k : Kc} {F H : Hp} : ∀ {σ : L2.St} {ρ : List O} {S : List Addr}, Envs k F H σ ρ S → σ.length = ρ.length
  | _, _, _, .nil => rfl
  | _, _, _, .dead r => congrArg (· + 1) (Envs.length r)
  | _, _, _, .cons _ r => congrArg (· + 1) (Envs.length r)

/-- a view: it may lean on what stands at S -/
def Vw (k : Kc) (F H : Hp) (S : List Addr) (v : V) (o : O) : Prop := ∃ T, (∀ a ∈ T, a ∈ S) ∧ Own k F H v o T
inductive Vws (k : Kc) (F H : Hp) (S : List Addr) : List V → List O → Prop
  | nil : Vws k F H S [] []
  | cons {v : V} {o : O} {vs : List V} {os : List O} : Vw k F H S v o → Vws k F H S vs os → Vws k F H S (v :: vs) (o :: os)
theorem Vw.mono {k : Kc} {F F' H H' : Hp} {S : List Addr} {v : V} {o : O} (s : Same F F') (t : At S H H') (h : Vw k F H S v o) : Vw k F' H' S v o :=
  let ⟨T, m, q⟩ := h
  ⟨T, m, q.mono s (t.mono m)⟩
theorem Vw.xt {k : Kc} {F F' H H' : Hp} {S : List Addr} {v : V} {o : O} (x : Xt F H F' H') (h : Vw k F H S v o) : Vw k F' H' S v o := h.mono x.sub (At.of x.ex)
theorem Vws.xt {k : Kc} {F F' H H' : Hp} {S : List Addr} (x : Xt F H F' H') : ∀ {v : List V} {o : List O}, Vws k F H S v o → Vws k F' H' S v o
  | _, _, .nil => .nil
  | _, _, .cons h r => .cons (h.xt x) (Vws.xt x r)
theorem Vw.fz {k : Kc} {F H : Hp} {S : List Addr} {v : V} {d : PD} (h : Rep k.K F v d) : Vw k F H S v (.fz d) := ⟨[], ⟨(fun _ m => by cases m), .fz h⟩⟩
theorem Vw.rep {k : Kc} {F H : Hp} {S : List Addr} {v : V} {d : PD} (h : Vw k F H S v (.fz d)) : Rep k.K F v d := by
  obtain ⟨T, _, q⟩ := h
  cases q with
  | fz r => exact r
theorem Envs.xt {k : Kc} {F F' H H' : Hp} {σ : L2.St} {ρ : List O} {S : List Addr} (x : Xt F H F' H') (h : Envs k F H σ ρ S) : Envs k F' H' σ ρ S := h.mono x.sub (At.of x.ex)
theorem Envs.get {k : Kc} {F H : Hp} : ∀ {σ : L2.St} {ρ : List O} {S : List Addr} {i : Nat} {o : O}, Envs k F H σ ρ S → ρ[i]? = some o → o = .dead ∨ ∃ v, σ[i]? = some (some v) ∧ Vw k F H S v o
  | _, _, _, _, _, .nil, e => by simp at e
  | _, _, _, 0, _, .dead r, e => .inl (by simpa using e.symm)
  | _, _, _, 0, _, .cons h r, e => by
    have e' : _ = _ := Option.some.inj (by simpa using e)
    subst e'
    exact .inr ⟨_, rfl, _, fun a m => List.mem_append_left _ m, h⟩
  | _, _, _, i + 1, _, .dead r, e => by
    rcases Envs.get (i := i) r (by simpa using e) with q | ⟨v, q, w⟩
    · exact .inl q
    · exact .inr ⟨v, by simpa using q, w⟩
  | _, _, _, i + 1, _, .cons h r, e => by
    rcases Envs.get (i := i) r (by simpa using e) with q | ⟨v, q, T, m, w⟩
    · exact .inl q
    · exact .inr ⟨v, by simpa using q, T, fun a z => List.mem_append_right _ (m a z), w⟩
end FM
namespace FM
open PySem L2

/-! ### from owned to frozen -/
mutual
def toPD : O → Option PD
  | .fz d => some d
  | .lst ds => some (.list ds)
  | .dic ds => some (.dict (ds.map kp))
  | .dit ds => some (.dict (ds.map tp))
  | .nst os => (toPDs os).map .list
  | .ntp os => (toPDs os).map .tuple
  | .ndc os => (toPDk os).map fun ds => .dict (ds.map kp)
  | .ins _ _ => none
  | .ktp _ => none
  | .dead => none
def toPDs : List O → Option (List PD)
  | [] => some []
  | o :: os => match toPD o, toPDs os with
    | some d, some ds => some (d :: ds)
    | _, _ => none
def toPDk : List (Key × O) → Option (List (Key × PD))
  | [] => some []
  | (k, o) :: os => match toPD o, toPDk os with
    | some d, some ds => some ((k, d) :: ds)
    | _, _ => none
end
def over (F H : Hp) (T : List Addr) : Hp := fun a => if a ∈ T then H a else F a
theorem over_in {F H : Hp} {T : List Addr} {a : Addr} (h : a ∈ T) : over F H T a = H a := if_pos h
theorem over_out {F H : Hp} {T : List Addr} {a : Addr} (h : a ∉ T) : over F H T a = F a := if_neg h
theorem over_rd {F H : Hp} {T : List Addr} {a : Addr} {u : HO} (h : a ∈ T) (r : Rd H a u) : Rd (over F H T) a u := by
  unfold Rd
  rw [over_in h]
  exact r
theorem over_sub {F H : Hp} {T : List Addr} (off : ∀ a ∈ T, F a = none) : Same F (over F H T) := fun a u e => by
  by_cases h : a ∈ T
  · rw [off a h] at e; cases e
  · rw [over_out h]; exact e
theorem over_le {F H : Hp} {T : List Addr} (f : FLe F H) : FLe (over F H T) H := fun a u e => by
  by_cases h : a ∈ T
  · rw [over_in h] at e; exact .inl e
  · rw [over_out h] at e; exact f a u e
theorem over_fresh {F H : Hp} {T : List Addr} {a : Addr} {u : HO} (e : over F H T a = some u) : F a = some u ∨ a ∈ T := by
  by_cases h : a ∈ T
  · exact .inr h
  · rw [over_out h] at e; exact .inl e
mutual
theorem own_fz {k : Kc} {F H G : Hp} {T : List Addr} (s : Same F G) (g : ∀ a u, a ∈ T → Rd H a u → Rd G a u) (gt : ∀ a vs, a ∈ T → H a = some (.tup vs) → G a = some (.tup vs)) : ∀ {v : V} {o : O} {S : List Addr} {d : PD}, (∀ a ∈ S, a ∈ T) → Own k F H v o S → toPD o = some d → Rep k.K G v d
  | _, _, _, _, _, .fz h, e => by
    have e' := Option.some.inj e
    subst e'
    exact h.sub s
  | _, _, _, _, m, .lst h r, e => by
    have e' := Option.some.inj e
    subst e'
    exact .lst (.inl (g _ _ (m _ (by simp)) h)) (r.sub s)
  | _, _, _, _, m, .dic h r, e => by
    have e' := Option.some.inj e
    subst e'
    exact .dic (g _ _ (m _ (by simp)) h) (r.sub s) rfl
  | _, _, _, _, m, .dit h r, e => by
    have e' := Option.some.inj e
    subst e'
    exact .dit (g _ _ (m _ (by simp)) h) (r.sub s) rfl
  | _, _, _, _, m, .nst (os := os) h r, e => by
    have e : (toPDs os).map PyData.list = some _ := e
    cases q : toPDs os with
    | none => rw [q] at e; cases e
    | some ds =>
      rw [q] at e
      have e' := Option.some.inj e
      subst e'
      exact .lst (.inl (g _ _ (m _ (by simp)) h)) (owns_fz s g gt (fun a z => m a (List.mem_cons_of_mem _ z)) r q)
  | _, _, _, _, m, .ntp (os := os) h hg r, e => by
    have e : (toPDs os).map PyData.tuple = some _ := e
    cases q : toPDs os with
    | none => rw [q] at e; cases e
    | some ds =>
      rw [q] at e
      have e' := Option.some.inj e
      subst e'
      exact .tup (gt _ _ (m _ (by simp)) h) (owns_fz s g gt (fun a z => m a (List.mem_cons_of_mem _ z)) r q)
  | _, _, _, _, m, .ndc (os := os) h r, e => by
    have e : (toPDk os).map (fun ds => PyData.dict (ds.map kp)) = some _ := e
    cases q : toPDk os with
    | none => rw [q] at e; cases e
    | some ds =>
      rw [q] at e
      have e' := Option.some.inj e
      subst e'
      exact .dic (g _ _ (m _ (by simp)) h) (ownk_fz s g gt (fun a z => m a (List.mem_cons_of_mem _ z)) r q) rfl
  | _, _, _, _, _, .ins _ _, e => by cases e
  | _, _, _, _, _, .ktp _ _, e => by cases e
  | _, _, _, _, _, .dead, e => by cases e
theorem owns_fz {k : Kc} {F H G : Hp} {T : List Addr} (s : Same F G) (g : ∀ a u, a ∈ T → Rd H a u → Rd G a u) (gt : ∀ a vs, a ∈ T → H a = some (.tup vs) → G a = some (.tup vs)) : ∀ {v : List V} {o : List O} {S : List Addr} {d : List PD}, (∀ a ∈ S, a ∈ T) → Owns k F H v o S → toPDs o = some d → Reps k.K G v d
  | _, _, _, _, _, .nil, e => by
    have e' := Option.some.inj e
    subst e'
    exact .nil
  | _, _, _, _, m, .cons (o := o) (os := os) h r, e => by
    unfold toPDs at e
    cases q1 : toPD o with
    | none => rw [q1] at e; cases e
    | some d =>
      cases q2 : toPDs os with
      | none => rw [q1, q2] at e; cases e
      | some ds =>
        rw [q1, q2] at e
        have e' := Option.some.inj e
        subst e'
        exact .cons (own_fz s g gt (fun a z => m a (List.mem_append_left _ z)) h q1) (owns_fz s g gt (fun a z => m a (List.mem_append_right _ z)) r q2)
theorem ownk_fz {k : Kc} {F H G : Hp} {T : List Addr} (s : Same F G) (g : ∀ a u, a ∈ T → Rd H a u → Rd G a u) (gt : ∀ a vs, a ∈ T → H a = some (.tup vs) → G a = some (.tup vs)) : ∀ {v : List (Key × V)} {o : List (Key × O)} {S : List Addr} {d : List (Key × PD)}, (∀ a ∈ S, a ∈ T) → OwnK k F H v o S → toPDk o = some d → RepK k.K G v d
  | _, _, _, _, _, .nil, e => by
    have e' := Option.some.inj e
    subst e'
    exact .nil
  | _, _, _, _, m, .cons (o := o) (os := os) h r, e => by
    unfold toPDk at e
    cases q1 : toPD o with
    | none => rw [q1] at e; cases e
    | some d =>
      cases q2 : toPDk os with
      | none => rw [q1, q2] at e; cases e
      | some ds =>
        rw [q1, q2] at e
        have e' := Option.some.inj e
        subst e'
        exact .cons (own_fz s g gt (fun a z => m a (List.mem_append_left _ z)) h q1) (ownk_fz s g gt (fun a z => m a (List.mem_append_right _ z)) r q2)
end
/-- a view as data at the heap -/
def SubLe (F H : Hp) (G : Hp) : Prop := Same F G ∧ ∀ a u, Rd H a u → Rd G a u
theorem Own.freeze {k : Kc} {F H : Hp} {v : V} {o : O} {T : List Addr} {d : PD} (h : Own k F H v o T) (off : ∀ a ∈ T, F a = none) (e : toPD o = some d) : Rep k.K (over F H T) v d :=
  own_fz (over_sub off) (fun a u m r => over_rd m r) (fun a vs m r => by rw [over_in m]; exact r) (fun _ m => m) h e

/-! ### frozen data at the heap itself (locks looked through) -/
def eye (H : Hp) : Hp := H
mutual
theorem Rep.le {K : Frag} {F H : Hp} (s : FLe F H) : ∀ {v : V} {d : PD}, Rep K F v d → Rep K H v d
  | _, _, .non => .non
  | _, _, .bl b => .bl b
  | _, _, .int i => .int i
  | _, _, .str x => .str x
  | _, _, .lst h r => .lst (sqL_le s h) (Reps.le s r)
  | _, _, .tup h r => .tup (tup_le s h) (Reps.le s r)
  | _, _, .dic h r e => .dic (rd_le s h) (RepK.le s r) e
  | _, _, .dit h r e => .dit (rd_le s h) (RepT.le s r) e
theorem Reps.le {K : Frag} {F H : Hp} (s : FLe F H) : ∀ {v : List V} {d : List PD}, Reps K F v d → Reps K H v d
  | _, _, .nil => .nil
  | _, _, .cons h r => .cons (Rep.le s h) (Reps.le s r)
theorem RepK.le {K : Frag} {F H : Hp} (s : FLe F H) : ∀ {v : List (Key × V)} {d : List (Key × PD)}, RepK K F v d → RepK K H v d
  | _, _, .nil => .nil
  | _, _, .cons h r => .cons (Rep.le s h) (RepK.le s r)
theorem RepT.le {K : Frag} {F H : Hp} (s : FLe F H) : ∀ {v : List (List Key × V)} {d : List (List Key × PD)}, RepT K F v d → RepT K H v d
  | _, _, .nil => .nil
  | _, _, .cons h r => .cons (Rep.le s h) (RepT.le s r)
end
mutual
theorem own_at {k : Kc} {F H : Hp} (s : FLe F H) : ∀ {v : V} {o : O} {S : List Addr} {d : PD}, Own k F H v o S → toPD o = some d → Rep k.K H v d
  | _, _, _, _, .fz h, e => by
    have e' := Option.some.inj e
    subst e'
    exact h.le s
  | _, _, _, _, .lst h r, e => by
    have e' := Option.some.inj e
    subst e'
    exact .lst (.inl h) (r.le s)
  | _, _, _, _, .dic h r, e => by
    have e' := Option.some.inj e
    subst e'
    exact .dic h (r.le s) rfl
  | _, _, _, _, .dit h r, e => by
    have e' := Option.some.inj e
    subst e'
    exact .dit h (r.le s) rfl
  | _, _, _, _, .nst (os := os) h r, e => by
    have e : (toPDs os).map PyData.list = some _ := e
    cases q : toPDs os with
    | none => rw [q] at e; cases e
    | some ds =>
      rw [q] at e
      have e' := Option.some.inj e
      subst e'
      exact .lst (.inl h) (owns_at s r q)
  | _, _, _, _, .ntp (os := os) h hg r, e => by
    have e : (toPDs os).map PyData.tuple = some _ := e
    cases q : toPDs os with
    | none => rw [q] at e; cases e
    | some ds =>
      rw [q] at e
      have e' := Option.some.inj e
      subst e'
      exact .tup h (owns_at s r q)
  | _, _, _, _, .ndc (os := os) h r, e => by
    have e : (toPDk os).map (fun ds => PyData.dict (ds.map kp)) = some _ := e
    cases q : toPDk os with
    | none => rw [q] at e; cases e
    | some ds =>
      rw [q] at e
      have e' := Option.some.inj e
      subst e'
      exact .dic h (ownk_at s r q) rfl
  | _, _, _, _, .ins _ _, e => by cases e
  | _, _, _, _, .ktp _ _, e => by cases e
  | _, _, _, _, .dead, e => by cases e
theorem owns_at {k : Kc} {F H : Hp} (s : FLe F H) : ∀ {v : List V} {o : List O} {S : List Addr} {d : List PD}, Owns k F H v o S → toPDs o = some d → Reps k.K H v d
  | _, _, _, _, .nil, e => by
    have e' := Option.some.inj e
    subst e'
    exact .nil
  | _, _, _, _, .cons (o := o) (os := os) h r, e => by
    unfold toPDs at e
    cases q1 : toPD o with
    | none => rw [q1] at e; cases e
    | some d =>
      cases q2 : toPDs os with
      | none => rw [q1, q2] at e; cases e
      | some ds =>
        rw [q1, q2] at e
        have e' := Option.some.inj e
        subst e'
        exact .cons (own_at s h q1) (owns_at s r q2)
theorem ownk_at {k : Kc} {F H : Hp} (s : FLe F H) : ∀ {v : List (Key × V)} {o : List (Key × O)} {S : List Addr} {d : List (Key × PD)}, OwnK k F H v o S → toPDk o = some d → RepK k.K H v d
  | _, _, _, _, .nil, e => by
    have e' := Option.some.inj e
    subst e'
    exact .nil
  | _, _, _, _, .cons (o := o) (os := os) h r, e => by
    unfold toPDk at e
    cases q1 : toPD o with
    | none => rw [q1] at e; cases e
    | some d =>
      cases q2 : toPDk os with
      | none => rw [q1, q2] at e; cases e
      | some ds =>
        rw [q1, q2] at e
        have e' := Option.some.inj e
        subst e'
        exact .cons (own_at s h q1) (ownk_at s r q2)
end
theorem Vw.at_ {k : Kc} {F H : Hp} {S : List Addr} {v : V} {o : O} {d : PD} (h : Vw k F H S v o) (s : FLe F H) (e : toPD o = some d) : Rep k.K H v d :=
  let ⟨_, _, q⟩ := h
  own_at s q e
/-- sequences -/
def seqL : O → Option (List PD)
  | .fz (.list ds) => some ds
  | .lst ds => some ds
  | _ => none
def seqT : O → Option (List PD)
  | .fz (.tuple ds) => some ds
  | _ => none
theorem Vw.seqL {k : Kc} {F H : Hp} {S : List Addr} {v : V} {o : O} {ds : List PD} (h : Vw k F H S v o) (s : FLe F H) (e : FM.seqL o = some ds) : ∃ a vs, v = .ref a ∧ SqL k.K H a vs ∧ Reps k.K F vs ds := by
  obtain ⟨T, _, q⟩ := h
  cases q with
  | fz r =>
    cases r with
    | lst h1 h2 =>
      have e' := Option.some.inj e
      subst e'
      exact ⟨_, _, rfl, sqL_le s h1, h2⟩
    | dic h1 h2 h3 => subst h3; cases e
    | dit h1 h2 h3 => subst h3; cases e
    | _ => cases e
  | lst h1 h2 =>
    have e' := Option.some.inj e
    subst e'
    exact ⟨_, _, rfl, .inl h1, h2⟩
  | _ => cases e
theorem Vw.seqT {k : Kc} {F H : Hp} {S : List Addr} {v : V} {o : O} {ds : List PD} (h : Vw k F H S v o) (s : FLe F H) (e : FM.seqT o = some ds) : ∃ a vs, v = .ref a ∧ H a = some (.tup vs) ∧ Reps k.K F vs ds := by
  obtain ⟨T, _, q⟩ := h
  cases q with
  | fz r =>
    cases r with
    | tup h1 h2 =>
      have e' := Option.some.inj e
      subst e'
      exact ⟨_, _, rfl, tup_le s h1, h2⟩
    | dic h1 h2 h3 => subst h3; cases e
    | dit h1 h2 h3 => subst h3; cases e
    | _ => cases e
  | _ => cases e
/-- a tuple that is read: a new one, or the module's -/
def seqR : O → Option (List PD)
  | .fz (.tuple ds) => some ds
  | .ktp ds => some ds
  | _ => none
theorem Vw.seqR {k : Kc} {F H : Hp} {S : List Addr} {v : V} {o : O} {ds : List PD} (h : Vw k F H S v o) (s : FLe F H) (e : FM.seqR o = some ds) : ∃ a vs, v = .ref a ∧ SqT k.K H a vs ∧ Reps k.K F vs ds := by
  obtain ⟨T, _, q⟩ := h
  cases q with
  | fz r =>
    cases r with
    | tup h1 h2 =>
      have e' := Option.some.inj e
      subst e'
      exact ⟨_, _, rfl, SqT.of (tup_le s h1), h2⟩
    | dic h1 h2 h3 => subst h3; cases e
    | dit h1 h2 h3 => subst h3; cases e
    | _ => cases e
  | ktp h1 h2 =>
    have e' := Option.some.inj e
    subst e'
    exact ⟨_, _, rfl, h1 H, h2⟩
  | _ => cases e
theorem Vw.int {k : Kc} {F H : Hp} {S : List Addr} {v : V} {i : Int} (h : Vw k F H S v (.fz (.int i))) : v = .int i := by
  cases h.rep with
  | int => rfl
  | dic _ _ e => cases e
  | dit _ _ e => cases e
theorem Vw.str {k : Kc} {F H : Hp} {S : List Addr} {v : V} {i : Str} (h : Vw k F H S v (.fz (.str i))) : v = .str i := by
  cases h.rep with
  | str => rfl
  | dic _ _ e => cases e
  | dit _ _ e => cases e
theorem Vw.bl {k : Kc} {F H : Hp} {S : List Addr} {v : V} {i : Bool} (h : Vw k F H S v (.fz (.bool i))) : v = .bl i := by
  cases h.rep with
  | bl => rfl
  | dic _ _ e => cases e
  | dit _ _ e => cases e
theorem Vw.non {k : Kc} {F H : Hp} {S : List Addr} {v : V} (h : Vw k F H S v (.fz .none)) : v = .non := by
  cases h.rep with
  | non => rfl
  | dic _ _ e => cases e
  | dit _ _ e => cases e
theorem Reps.length {K : Frag} {F : Hp} : ∀ {vs : List V} {ds : List PD}, Reps K F vs ds → vs.length = ds.length
  | _, _, .nil => rfl
  | _, _, .cons _ r => congrArg (· + 1) (Reps.length r)
theorem Reps.append {K : Frag} {F : Hp} : ∀ {vs ws : List V} {ds es : List PD}, Reps K F vs ds → Reps K F ws es → Reps K F (vs ++ ws) (ds ++ es)
  | _, _, _, _, .nil, s => s
  | _, _, _, _, .cons h r, s => .cons h (Reps.append r s)
theorem Reps.get {K : Frag} {F : Hp} : ∀ {vs : List V} {ds : List PD} {i : Nat} {d : PD}, Reps K F vs ds → ds[i]? = some d → ∃ v, vs[i]? = some v ∧ Rep K F v d
  | _, _, _, _, .nil, e => by simp at e
  | _, _, 0, _, .cons h r, e => by
    have e' : _ = _ := Option.some.inj (by simpa using e)
    subst e'
    exact ⟨_, rfl, h⟩
  | _, _, i + 1, _, .cons h r, e => by
    obtain ⟨v, q, w⟩ := Reps.get (i := i) r (by simpa using e)
    exact ⟨v, by simpa using q, w⟩
theorem Reps.take {K : Frag} {F : Hp} : ∀ {vs : List V} {ds : List PD} (n : Nat), Reps K F vs ds → Reps K F (vs.take n) (ds.take n)
  | _, _, 0, _ => by simp only [List.take_zero]; exact .nil
  | _, _, n + 1, .nil => by simp only [List.take_nil]; exact .nil
  | _, _, n + 1, .cons h r => .cons h (Reps.take n r)
theorem Reps.drop {K : Frag} {F : Hp} : ∀ {vs : List V} {ds : List PD} (n : Nat), Reps K F vs ds → Reps K F (vs.drop n) (ds.drop n)
  | _, _, 0, r => r
  | _, _, n + 1, .nil => by simp only [List.drop_nil]; exact .nil
  | _, _, n + 1, .cons h r => Reps.drop n r
theorem Reps.set {K : Frag} {F : Hp} {v : V} {d : PD} (q : Rep K F v d) : ∀ {vs : List V} {ds : List PD} (n : Nat), Reps K F vs ds → Reps K F (vs.set n v) (ds.set n d)
  | _, _, _, .nil => .nil
  | _, _, 0, .cons h r => .cons q r
  | _, _, n + 1, .cons h r => .cons h (Reps.set q n r)
theorem Reps.reverse {K : Frag} {F : Hp} : ∀ {vs : List V} {ds : List PD}, Reps K F vs ds → Reps K F vs.reverse ds.reverse
  | _, _, .nil => .nil
  | _, _, .cons h r => by
    rw [List.reverse_cons, List.reverse_cons]
    exact (Reps.reverse r).append (.cons h .nil)
theorem Reps.eraseIdx {K : Frag} {F : Hp} : ∀ {vs : List V} {ds : List PD} (n : Nat), Reps K F vs ds → Reps K F (vs.eraseIdx n) (ds.eraseIdx n)
  | _, _, _, .nil => by simp only [List.eraseIdx_nil]; exact .nil
  | _, _, 0, .cons h r => r
  | _, _, n + 1, .cons h r => .cons h (Reps.eraseIdx n r)
theorem Reps.dropLast {K : Frag} {F : Hp} {vs : List V} {ds : List PD} (r : Reps K F vs ds) : Reps K F vs.dropLast ds.dropLast := by
  rw [List.dropLast_eq_take, List.dropLast_eq_take, r.length]
  exact r.take _
end FM
namespace FM
open PySem L2

theorem rd_there {H : Hp} {a : Addr} {u : HO} (h : Rd H a u) (hu : ¬ gnd u := by rintro ⟨z, e⟩; cases e) : Th H a := by
  rcases h with h | ⟨o, h⟩
  · refine ⟨by rw [h]; simp, fun w g e => ?_⟩
    rw [h] at e
    cases e
    exact hu g
  · refine ⟨by rw [h]; simp, fun w g e => ?_⟩
    rw [h] at e
    cases e
    obtain ⟨z, e⟩ := g
    cases e
mutual
theorem Own.there {k : Kc} {F H : Hp} : ∀ {v : V} {o : O} {S : List Addr}, Own k F H v o S → ∀ a ∈ S, Th H a
  | _, _, _, .fz _, a, m => by cases m
  | _, _, _, .lst h _, a, m => by rw [List.mem_singleton.mp m]; exact rd_there h
  | _, _, _, .dic h _, a, m => by rw [List.mem_singleton.mp m]; exact rd_there h
  | _, _, _, .dit h _, a, m => by rw [List.mem_singleton.mp m]; exact rd_there h
  | _, _, _, .nst h r, a, m => by
    rcases List.mem_cons.mp m with e | m
    · rw [e]; exact rd_there h
    · exact Owns.there r a m
  | _, _, _, .ntp h hg r, a, m => by
    rcases List.mem_cons.mp m with e | m
    · subst e
      refine ⟨by rw [h]; simp, fun w g e => ?_⟩
      rw [h] at e
      cases e
      obtain ⟨z, e⟩ := g
      cases e
      exact hg z rfl
    · exact Owns.there r a m
  | _, _, _, .ndc h r, a, m => by
    rcases List.mem_cons.mp m with e | m
    · rw [e]; exact rd_there h
    · exact OwnK.there r a m
  | _, _, _, .ins h r, a, m => by
    rcases List.mem_cons.mp m with e | m
    · rw [e]; exact rd_there (.inl h)
    · exact OwnF.there r a m
  | _, _, _, .ktp _ _, a, m => by cases m
  | _, _, _, .dead, a, m => by cases m
theorem Owns.there {k : Kc} {F H : Hp} : ∀ {v : List V} {o : List O} {S : List Addr}, Owns k F H v o S → ∀ a ∈ S, Th H a
  | _, _, _, .nil, a, m => by cases m
  | _, _, _, .cons h r, a, m => (List.mem_append.mp m).elim (Own.there h a) (Owns.there r a)
theorem OwnK.there {k : Kc} {F H : Hp} : ∀ {v : List (Key × V)} {o : List (Key × O)} {S : List Addr}, OwnK k F H v o S → ∀ a ∈ S, Th H a
  | _, _, _, .nil, a, m => by cases m
  | _, _, _, .cons h r, a, m => (List.mem_append.mp m).elim (Own.there h a) (OwnK.there r a)
theorem OwnF.there {k : Kc} {F H : Hp} : ∀ {v : List (Str × V)} {o : List (Str × O)} {S : List Addr}, OwnF k F H v o S → ∀ a ∈ S, Th H a
  | _, _, _, .nil, a, m => by cases m
  | _, _, _, .cons h r, a, m => (List.mem_append.mp m).elim (Own.there h a) (OwnF.there r a)
end
theorem Envs.there {k : Kc} {F H : Hp} : ∀ {σ : L2.St} {ρ : List O} {S : List Addr}, Envs k F H σ ρ S → ∀ a ∈ S, Th H a
  | _, _, _, .nil, a, m => by cases m
  | _, _, _, .dead r, a, m => Envs.there r a m
  | _, _, _, .cons h r, a, m => (List.mem_append.mp m).elim (Own.there h a) (Envs.there r a)

/-- the state of a quiet evaluation -/
structure Qs (k : Kc) (F H : Hp) (σ : L2.St) (ρ : List O) (S : List Addr) : Prop where
  fle : FLe F H
  env : Envs k F H σ ρ S
  off : ∀ a ∈ S, F a = none
theorem Xt.off {F H F' H' : Hp} (x : Xt F H F' H') {a : Addr} (h : F a = none) (t : Th H a) : F' a = none := by
  cases e : F' a with
  | none => rfl
  | some u =>
    rcases x.fresh a u e with q | q | ⟨g, q⟩
    · rw [h] at q; cases q
    · exact absurd q t.1
    · exact absurd q (t.2 u g)
theorem Qs.xt {k : Kc} {F H F' H' : Hp} {σ : L2.St} {ρ : List O} {S : List Addr} (q : Qs k F H σ ρ S) (x : Xt F H F' H') : Qs k F' H' σ ρ S :=
  ⟨x.fle, q.env.xt x, fun a m => x.off (q.off a m) (q.env.there a m)⟩

/-! ### quiet readings -/
abbrev QE := List O → Option O
def TEv (k : Kc) (t : TE) (q : QE) : Prop := ∀ (F H : Hp) (σ : L2.St) (ρ : List O) (S : List Addr) (o : O) (Q : VK), Qs k F H σ ρ S → q ρ = some o → (∀ v F' H', Xt F H F' H' → Vw k F' H' S v o → Q v H') → t σ H Q
def TTv (k : Kc) (t : TT) (q : List O → Option Bool) : Prop := ∀ (F H : Hp) (σ : L2.St) (ρ : List O) (S : List Addr) (b : Bool) (Q : Bool → Hp → Prop), Qs k F H σ ρ S → q ρ = some b → (∀ F' H', Xt F H F' H' → Q b H') → t σ H Q
def TAv (k : Kc) (t : TA) (q : List O → Option (List O)) : Prop := ∀ (F H : Hp) (σ : L2.St) (ρ : List O) (S : List Addr) (os : List O) (Q : List V → Hp → Prop), Qs k F H σ ρ S → q ρ = some os → (∀ vs F' H', Xt F H F' H' → Vws k F' H' S vs os → Q vs H') → t σ H Q
def TOv (k : Kc) (t : TO) (q : List O → Option (Option Int)) : Prop := ∀ (F H : Hp) (σ : L2.St) (ρ : List O) (S : List Addr) (b : Option Int) (Q : Option Int → Hp → Prop), Qs k F H σ ρ S → q ρ = some b → (∀ F' H', Xt F H F' H' → Q b H') → t σ H Q
/-- a new object of one's own -/
structure Fresh (F' H H' : Hp) (T : List Addr) : Prop where
  nd : T.Nodup
  new : ∀ a ∈ T, H a = none
  off : ∀ a ∈ T, F' a = none
  nofz : ∀ a ∈ T, ∀ o u, H' a ≠ some (.frz o u)
def TEn (k : Kc) (t : TE) (q : QE) : Prop := ∀ (F H : Hp) (σ : L2.St) (ρ : List O) (S : List Addr) (o : O) (Q : VK), Qs k F H σ ρ S → q ρ = some o → (∀ v F' H' T, Xt F H F' H' → Own k F' H' v o T → Fresh F' H H' T → Q v H') → t σ H Q
/-- operations by views -/
def OpV (k : Kc) (r : R2) (f : O → O → Option O) : Prop := ∀ (F H : Hp) (S : List Addr) (x y : V) (ox oy o : O) (Q : VK), FLe F H → (∀ a ∈ S, F a = none) → (∀ a ∈ S, Th H a) → Vw k F H S x ox → Vw k F H S y oy → f ox oy = some o → (∀ v F' H', Xt F H F' H' → Vw k F' H' S v o → Q v H') → r x y H Q
def UnV (k : Kc) (r : V → Hp → VK → Prop) (f : O → Option O) : Prop := ∀ (F H : Hp) (S : List Addr) (x : V) (ox o : O) (Q : VK), FLe F H → (∀ a ∈ S, F a = none) → (∀ a ∈ S, Th H a) → Vw k F H S x ox → f ox = some o → (∀ v F' H', Xt F H F' H' → Vw k F' H' S v o → Q v H') → r x H Q
def CbV (k : Kc) (r : List V → Hp → VK → Prop) (f : List O → Option O) : Prop := ∀ (F H : Hp) (S : List Addr) (xs : List V) (os : List O) (o : O) (Q : VK), FLe F H → (∀ a ∈ S, F a = none) → (∀ a ∈ S, Th H a) → Vws k F H S xs os → f os = some o → (∀ v F' H', Xt F H F' H' → Vw k F' H' S v o → Q v H') → r xs H Q
def CbN (k : Kc) (r : List V → Hp → VK → Prop) (f : List O → Option O) : Prop := ∀ (F H : Hp) (S : List Addr) (xs : List V) (os : List O) (o : O) (Q : VK), FLe F H → (∀ a ∈ S, F a = none) → (∀ a ∈ S, Th H a) → Vws k F H S xs os → f os = some o → (∀ v F' H' T, Xt F H F' H' → Own k F' H' v o T → Fresh F' H H' T → Q v H') → r xs H Q

/-! ### the mirror's words -/
def qVar (i : Nat) : QE := fun ρ => match ρ[i]? with
  | some .dead => none
  | r => r
def qC (d : PD) : QE := fun _ => some (.fz d)
def qOp (f : O → O → Option O) (a b : QE) : QE := fun ρ => match a ρ with
  | none => none
  | some x => match b ρ with
    | none => none
    | some y => f x y
def qUn (f : O → Option O) (a : QE) : QE := fun ρ => match a ρ with
  | none => none
  | some x => f x
def qNil : List O → Option (List O) := fun _ => some []
def qCons (a : QE) (r : List O → Option (List O)) : List O → Option (List O) := fun ρ => match a ρ with
  | none => none
  | some x => match r ρ with
    | none => none
    | some xs => some (x :: xs)
def qCb (f : List O → Option O) (r : List O → Option (List O)) : QE := fun ρ => match r ρ with
  | none => none
  | some xs => f xs
def qB (a : QE) : List O → Option Bool := fun ρ => match a ρ with
  | some (.fz (.bool b)) => some b
  | _ => none
def qAnd (a b : List O → Option Bool) : List O → Option Bool := fun ρ => match a ρ with
  | some true => b ρ
  | r => r
def qOr (a b : List O → Option Bool) : List O → Option Bool := fun ρ => match a ρ with
  | some false => b ρ
  | r => r
def qNot (a : List O → Option Bool) : List O → Option Bool := fun ρ => match a ρ with
  | some b => some (!b)
  | none => none
def qAndV (a b : QE) : QE := fun ρ => match a ρ with
  | some (.fz (.bool true)) => b ρ
  | some (.fz (.bool false)) => some (.fz (.bool false))
  | _ => none
def qOrV (a b : QE) : QE := fun ρ => match a ρ with
  | some (.fz (.bool false)) => b ρ
  | some (.fz (.bool true)) => some (.fz (.bool true))
  | _ => none
def qNotV (a : QE) : QE := fun ρ => match a ρ with
  | some (.fz (.bool b)) => some (.fz (.bool (!b)))
  | _ => none
def qIf (c : List O → Option Bool) (a b : QE) : QE := fun ρ => match c ρ with
  | some true => a ρ
  | some false => b ρ
  | none => none
def qFz (a : QE) : QE := fun ρ => match a ρ with
  | some o => (toPD o).map .fz
  | none => none

section
variable {k : Kc} {ta tb te : TE} {t u : TT} {tl : TA} {qa qb : QE} {ca cb : List O → Option Bool} {qs : List O → Option (List O)}
theorem tev_var {i : Nat} : TEv k (tVar i) (qVar i) := by
  intro F H σ ρ S o Q q e h
  have e1 : ρ[i]? = some o ∧ o ≠ .dead := by
    unfold qVar at e
    split at e
    · cases e
    · rename_i hne
      refine ⟨e, fun z => hne ?_⟩
      rw [e, z]
  rcases q.env.get e1.1 with z | ⟨v, hv, w⟩
  · exact absurd z e1.2
  · exact ⟨v, hv, h v F H (Xt.refl q.fle) w⟩
theorem tev_c {v : V} {d : PD} (r : ∀ F, Rep k.K F v d) : TEv k (tC v) (qC d) := by
  intro F H σ ρ S o Q q e h
  have e' := Option.some.inj e
  subst e'
  exact h v F H (Xt.refl q.fle) (.fz (r F))
theorem tev_op {r : R2} {f : O → O → Option O} (ha : TEv k ta qa) (hb : TEv k tb qb) (hr : OpV k r f) : TEv k (tOp r ta tb) (qOp f qa qb) := by
  intro F H σ ρ S o Q q e h
  unfold qOp at e
  cases e1 : qa ρ with
  | none => rw [e1] at e; cases e
  | some x =>
    rw [e1] at e
    cases e2 : qb ρ with
    | none => simp only [e2] at e; cases e
    | some y =>
      simp only [e2] at e
      refine ha F H σ ρ S x _ q e1 fun v F1 H1 x1 w1 => ?_
      refine hb F1 H1 σ ρ S y _ (q.xt x1) e2 fun w F2 H2 x2 w2 => ?_
      have q2 := (q.xt x1).xt x2
      exact hr F2 H2 S v w x y o Q x2.fle q2.off q2.env.there (w1.xt x2) w2 e fun z F3 H3 x3 w3 => h z F3 H3 ((x1.trans x2).trans x3) w3
theorem tev_un {r : V → Hp → VK → Prop} {f : O → Option O} (ha : TEv k ta qa) (hr : UnV k r f) : TEv k (tUn r ta) (qUn f qa) := by
  intro F H σ ρ S o Q q e h
  unfold qUn at e
  cases e1 : qa ρ with
  | none => rw [e1] at e; cases e
  | some x =>
    rw [e1] at e
    refine ha F H σ ρ S x _ q e1 fun v F1 H1 x1 w1 => ?_
    have q2 := q.xt x1
    exact hr F1 H1 S v x o Q x1.fle q2.off q2.env.there w1 e fun z F3 H3 x3 w3 => h z F3 H3 (x1.trans x3) w3
theorem tav_nil : TAv k tNil qNil := by
  intro F H σ ρ S os Q q e h
  have e' := Option.some.inj e
  subst e'
  exact h [] F H (Xt.refl q.fle) .nil
theorem tav_cons (ha : TEv k te qa) (hr : TAv k tl qs) : TAv k (tCons te tl) (qCons qa qs) := by
  intro F H σ ρ S os Q q e h
  unfold qCons at e
  cases e1 : qa ρ with
  | none => rw [e1] at e; cases e
  | some x =>
    rw [e1] at e
    cases e2 : qs ρ with
    | none => simp only [e2] at e; cases e
    | some xs =>
      simp only [e2] at e
      have e' := Option.some.inj e
      subst e'
      refine ha F H σ ρ S x _ q e1 fun v F1 H1 x1 w1 => ?_
      exact hr F1 H1 σ ρ S xs _ (q.xt x1) e2 fun vs F2 H2 x2 w2 => h _ F2 H2 (x1.trans x2) (.cons (w1.xt x2) w2)
theorem tev_cb {r : List V → Hp → VK → Prop} {f : List O → Option O} (ha : TAv k tl qs) (hr : CbV k r f) : TEv k (tCB r tl) (qCb f qs) := by
  intro F H σ ρ S o Q q e h
  unfold qCb at e
  cases e1 : qs ρ with
  | none => rw [e1] at e; cases e
  | some x =>
    rw [e1] at e
    refine ha F H σ ρ S x _ q e1 fun v F1 H1 x1 w1 => ?_
    have q2 := q.xt x1
    exact hr F1 H1 S v x o Q x1.fle q2.off q2.env.there w1 e fun z F3 H3 x3 w3 => h z F3 H3 (x1.trans x3) w3
theorem ten_cb {r : List V → Hp → VK → Prop} {f : List O → Option O} (ha : TAv k tl qs) (hr : CbN k r f) : TEn k (tCB r tl) (qCb f qs) := by
  intro F H σ ρ S o Q q e h
  unfold qCb at e
  cases e1 : qs ρ with
  | none => rw [e1] at e; cases e
  | some x =>
    rw [e1] at e
    refine ha F H σ ρ S x _ q e1 fun v F1 H1 x1 w1 => ?_
    have q2 := q.xt x1
    exact hr F1 H1 S v x o Q x1.fle q2.off q2.env.there w1 e fun z F3 H3 T x3 w3 fr => h z F3 H3 T (x1.trans x3) w3 ⟨fr.nd, fun a m => none_back x1.ex (fr.new a m), fr.off, fr.nofz⟩
theorem ttv_test (ha : TEv k te qa) : TTv k (tTest te) (qB qa) := by
  intro F H σ ρ S b Q q e h
  unfold qB at e
  split at e
  · rename_i c e1
    have e' := Option.some.inj e
    subst e'
    refine ha F H σ ρ S _ _ q e1 fun v F1 H1 x1 w1 => ?_
    exact ⟨_, w1.bl, h F1 H1 x1⟩
  · cases e
theorem ttv_B (ha : TEv k te qa) : TTv k (tB te) (qB qa) := by
  intro F H σ ρ S b Q q e h
  unfold qB at e
  split at e
  · rename_i c e1
    have e' := Option.some.inj e
    subst e'
    refine ha F H σ ρ S _ _ q e1 fun v F1 H1 x1 w1 => ?_
    exact ⟨_, w1.bl, h F1 H1 x1⟩
  · cases e
theorem ttv_and (ha : TTv k t ca) (hb : TTv k u cb) : TTv k (tAnd t u) (qAnd ca cb) := by
  intro F H σ ρ S b Q q e h
  unfold qAnd at e
  cases e1 : ca ρ with
  | none => rw [e1] at e; cases e
  | some c =>
    rw [e1] at e
    refine ha F H σ ρ S c _ q e1 fun F1 H1 x1 => ?_
    cases c with
    | true =>
      rw [if_pos rfl]
      exact hb F1 H1 σ ρ S b Q (q.xt x1) e fun F2 H2 x2 => h F2 H2 (x1.trans x2)
    | false =>
      have e' := Option.some.inj e
      subst e'
      rw [if_neg (by decide)]
      exact h F1 H1 x1
theorem ttv_or (ha : TTv k t ca) (hb : TTv k u cb) : TTv k (tOr t u) (qOr ca cb) := by
  intro F H σ ρ S b Q q e h
  unfold qOr at e
  cases e1 : ca ρ with
  | none => rw [e1] at e; cases e
  | some c =>
    rw [e1] at e
    refine ha F H σ ρ S c _ q e1 fun F1 H1 x1 => ?_
    cases c with
    | false =>
      rw [if_neg (by decide)]
      exact hb F1 H1 σ ρ S b Q (q.xt x1) e fun F2 H2 x2 => h F2 H2 (x1.trans x2)
    | true =>
      have e' := Option.some.inj e
      subst e'
      rw [if_pos rfl]
      exact h F1 H1 x1
theorem ttv_not (ha : TTv k t ca) : TTv k (tNot t) (qNot ca) := by
  intro F H σ ρ S b Q q e h
  unfold qNot at e
  cases e1 : ca ρ with
  | none => rw [e1] at e; cases e
  | some c =>
    rw [e1] at e
    have e' := Option.some.inj e
    subst e'
    exact ha F H σ ρ S c _ q e1 fun F1 H1 x1 => h F1 H1 x1
theorem tev_andV (ha : TEv k ta qa) (hb : TEv k tb qb) : TEv k (tAndV ta tb) (qAndV qa qb) := by
  intro F H σ ρ S o Q q e h
  unfold qAndV at e
  split at e
  · rename_i e1
    refine ha F H σ ρ S _ _ q e1 fun v F1 H1 x1 w1 => ⟨true, w1.bl, ?_⟩
    rw [if_pos rfl]
    exact hb F1 H1 σ ρ S o Q (q.xt x1) e fun w F2 H2 x2 w2 => h w F2 H2 (x1.trans x2) w2
  · rename_i e1
    have e' := Option.some.inj e
    subst e'
    refine ha F H σ ρ S _ _ q e1 fun v F1 H1 x1 w1 => ⟨false, w1.bl, ?_⟩
    rw [if_neg (by decide)]
    exact h _ F1 H1 x1 (.fz (.bl false))
  · cases e
theorem tev_orV (ha : TEv k ta qa) (hb : TEv k tb qb) : TEv k (tOrV ta tb) (qOrV qa qb) := by
  intro F H σ ρ S o Q q e h
  unfold qOrV at e
  split at e
  · rename_i e1
    refine ha F H σ ρ S _ _ q e1 fun v F1 H1 x1 w1 => ⟨false, w1.bl, ?_⟩
    rw [if_neg (by decide)]
    exact hb F1 H1 σ ρ S o Q (q.xt x1) e fun w F2 H2 x2 w2 => h w F2 H2 (x1.trans x2) w2
  · rename_i e1
    have e' := Option.some.inj e
    subst e'
    refine ha F H σ ρ S _ _ q e1 fun v F1 H1 x1 w1 => ⟨true, w1.bl, ?_⟩
    rw [if_pos rfl]
    exact h _ F1 H1 x1 (.fz (.bl true))
  · cases e
theorem tev_notV (ha : TEv k ta qa) : TEv k (tNotV ta) (qNotV qa) := by
  intro F H σ ρ S o Q q e h
  unfold qNotV at e
  split at e
  · rename_i c e1
    have e' := Option.some.inj e
    subst e'
    exact ha F H σ ρ S _ _ q e1 fun v F1 H1 x1 w1 => ⟨c, w1.bl, h _ F1 H1 x1 (.fz (.bl _))⟩
  · cases e
theorem tev_if (hc : TTv k t ca) (ha : TEv k ta qa) (hb : TEv k tb qb) : TEv k (tIf t ta tb) (qIf ca qa qb) := by
  intro F H σ ρ S o Q q e h
  unfold qIf at e
  split at e
  · rename_i e1
    refine hc F H σ ρ S _ _ q e1 fun F1 H1 x1 => ?_
    rw [if_pos rfl]
    exact ha F1 H1 σ ρ S o Q (q.xt x1) e fun w F2 H2 x2 w2 => h w F2 H2 (x1.trans x2) w2
  · rename_i e1
    refine hc F H σ ρ S _ _ q e1 fun F1 H1 x1 => ?_
    rw [if_neg (by decide)]
    exact hb F1 H1 σ ρ S o Q (q.xt x1) e fun w F2 H2 x2 w2 => h w F2 H2 (x1.trans x2) w2
  · cases e
/-- what is new may be frozen -/
theorem tev_n (ha : TEn k te qa) : TEv k te (qFz qa) := by
  intro F H σ ρ S o Q q e h
  unfold qFz at e
  cases e1 : qa ρ with
  | none => rw [e1] at e; cases e
  | some x =>
    rw [e1] at e
    have e : (toPD x).map O.fz = some o := e
    cases e2 : toPD x with
    | none => rw [e2] at e; cases e
    | some d =>
      rw [e2] at e
      have e' := Option.some.inj e
      subst e'
      refine ha F H σ ρ S x _ q e1 fun v F1 H1 T x1 w1 fr => ?_
      refine h v (over F1 H1 T) H1 ⟨x1.ex, x1.sub.trans (over_sub fr.off), over_le x1.fle, fun a u z => ?_⟩ (.fz (w1.freeze fr.off e2))
      rcases over_fresh z with z | z
      · exact x1.fresh a u z
      · exact .inr (.inl (fr.new a z))
/-- what holds no owned thing is new, too -/
def isFz : O → Bool
  | .fz _ => true
  | _ => false
def qFzO (a : QE) : QE := fun ρ => match a ρ with
  | some (.fz d) => some (.fz d)
  | _ => none
theorem ten_v (ha : TEv k te qa) : TEn k te (qFzO qa) := by
  intro F H σ ρ S o Q q e h
  unfold qFzO at e
  split at e
  · rename_i d e1
    have e' := Option.some.inj e
    subst e'
    exact ha F H σ ρ S _ _ q e1 fun v F1 H1 x1 w1 => h v F1 H1 [] x1 (.fz w1.rep) ⟨.nil, (fun a m => by cases m), (fun a m => by cases m), (fun a m => by cases m)⟩
  · cases e
end
end FM
namespace FM
open PySem L2 PyProof.Rows

/-! ### data, by the library's own reading -/
mutual
theorem Rep.dp {K : Frag} {H : Hp} : ∀ {v : V} {d : PD}, Rep K H v d → d.canLay0 = true → Dp K H v d
  | _, _, .non, _ => .non
  | _, _, .bl b, _ => .bl b
  | _, _, .int i, _ => .int i
  | _, _, .str x, _ => .str x
  | _, _, .lst h r, c => .lst h (Reps.dp r (by simpa [PyData.canLay0] using c))
  | _, _, .tup h r, c => .tup (SqT.of h) (Reps.dp r (by simpa [PyData.canLay0] using c))
  | _, _, .dic h r e, c => by subst e; simp [PyData.canLay0] at c
  | _, _, .dit h r e, c => by subst e; simp [PyData.canLay0] at c
theorem Reps.dp {K : Frag} {H : Hp} : ∀ {v : List V} {d : List PD}, Reps K H v d → PyData.canLayAll0 d = true → DpAll K H v d
  | _, _, .nil, _ => .nil
  | _, _, .cons h r, c => by
    have c' : _ ∧ _ := Bool.and_eq_true_iff.mp (by simpa only [PyData.canLayAll0] using c)
    exact .cons (Rep.dp h c'.1) (Reps.dp r c'.2)
end

theorem list_mulW (l : Addr) (items : Array Value) (n : Nat) (dd : Option Addr) (sl : Array (Option Value)) (x : Int) (u : Tok) (hc0 : ¬(!Builtin.List.listFitsIndex x) = true) (hc1 : ¬items.size * x.toNat > (2 ^ 63 - 1) / 8) (hc2 : ¬Builtin.List.listTooLong (items.size * x.toNat) = true) :
    Meets (Builtin.«list.__mul__» ⟨[.ref l, .int x u], []⟩) (fun _ R s => s.heap.get? l = some { cls := .type "list", dict := dd, data := .seq items n, slots := sl } ∧ R (.ok (.ret (Value.ref s.heap.objs.size))) { s with heap := s.heap.push { cls := Value.type "list", data := Data.seq (List.foldl (fun x1 x2 => x1 ++ x2) #[] (List.replicate (if items.isEmpty = true then 0 else x.toNat) items)) }, toks := s.toks }) :=
  .of_wp fun prog w A R s h => by
    obtain ⟨hp, g, d, tk, os⟩ := s; obtain ⟨hl, h⟩ := h
    have hsz := AutoListH.joined_fits hc2; have f1 := AutoSeq1.idx_int; have f2 := AutoSeq1.sub_tuple_tuple; have f3 := AutoSeq1.sub_list_list; have f4 := AutoSeq1.sub_tuple_list; have f5 := AutoSeq1.sub_list_tuple
    wp_walk using AutoSeq1.wpAny_loadPart' hl; refine wpAny_ite_false (decide_eq_false (Nat.not_lt.mpr hsz)) ?_; wp_walk using AutoSeq1.wpAny_loadPart' hl; exact ⟨_, rfl, h⟩
theorem int_rmulW (a : Int) (t : Tok) (l : Addr) (items : Array Value) (n : Nat) (dd : Option Addr) (sl : Array (Option Value)) :
    Meets (Builtin.«int.__rmul__» ⟨[.int a t, .ref l], []⟩) (fun _ R s => s.heap.get? l = some { cls := .type "list", dict := dd, data := .seq items n, slots := sl } ∧ R (.ok (.ret Value.notImplemented)) s) :=
  .of_wp fun prog w A R s h => by obtain ⟨hp, g, d, tk, os⟩ := s; obtain ⟨hl, h⟩ := h; wp_walk using AutoSeq1.wpAny_loadPart' hl; exact ⟨_, rfl, h⟩

section
variable {X : Cx}
/-! ### operators -/
def rCatL (K : Frag) : R2 := fun x y H Q => ∃ a b xs ys, x = .ref a ∧ y = .ref b ∧ SqL K H a xs ∧ SqL K H b ys ∧ xs.length + ys.length ≤ sizeLine ∧ ∀ p, H p = none → Q (.ref p) (upd H p (.lst (xs ++ ys)))
theorem op_catL : OpR X (binaryOp .Add) (rCatL X.K) := by
  intro pins s σ H x y v u Q I rx ry h
  obtain ⟨l, b, xs, zs, rfl, rfl, hH, hB, hz, q⟩ := h
  cases rx
  cases ry
  obtain ⟨its, r, p1, _⟩ := I.list hH
  obtain ⟨its2, r2, p2, _⟩ := I.list hB
  obtain ⟨⟨cls, dd, data, sl⟩, ho, hc, n, hd⟩ := p1.isList
  obtain ⟨⟨cls2, dd2, data2, sl2⟩, ho2, hc2, n2, hd2⟩ := p2.isList
  simp only at hc hd hc2 hd2
  subst hc hd hc2 hd2
  have e : its.toArray ++ its2.toArray = (its ++ its2).toArray := by simp
  have l1 := r.length
  have l2 := r2.length
  refine concat_meets ⟨_, ho, rfl⟩ ⟨_, ho2, rfl⟩ noFill_list_add seq_list_add PySem.F.slot_list_add PySem.F.entry_list_add (PySem.F.args_list_add_2 _ _) (list_addW l b its.toArray its2.toArray n n2 dd dd2 sl sl2 (by simp only [List.size_toArray]; omega)) ⟨ho, ho2, ?_⟩
  rw [e]
  exact ⟨.ref _, _, I.lnew (t' := s.toks) (r.append r2) (by rw [List.length_append]; omega), rfl, q _ I.fresh⟩
def rStr : R2 := fun x y H Q => ∃ i j, x = .str i ∧ y = .str j ∧ i.length + j.length ≤ sizeLine ∧ Q (.str (i ++ j)) H
def rAddU (K : Frag) : R2 := fun x y H Q => rI0 (fun i j => .int (i + j)) x y H Q ∨ (rStr x y H Q ∨ (rCatL K x y H Q ∨ rCatA K x y H Q))
theorem op_addU : OpR X (binaryOp .Add) (rAddU X.K) := op_add.or (OpR.or op_add_str (op_catL.or op_catA))
def oAdd (x y : O) : Option O :=
  match x, y with
  | .fz (.int a), .fz (.int b) => some (.fz (.int (a + b)))
  | .fz (.str a), .fz (.str b) => if a.length + b.length ≤ sizeLine then some (.fz (.str (a ++ b))) else none
  | x, y => match seqL x, seqL y with
    | some a, some b => if a.length + b.length ≤ sizeLine then some (.fz (.list (a ++ b))) else none
    | _, _ => match seqT x, seqT y with
      | some a, some b => if a.length + b.length ≤ sizeLine then some (.fz (.tuple (a ++ b))) else none
      | _, _ => none
theorem new_list {k : Kc} {F H : Hp} {S : List Addr} {vs : List V} {ds : List PD} {Q : VK} (f : FLe F H) (r : Reps k.K F vs ds) (h : ∀ v F' H', Xt F H F' H' → Vw k F' H' S v (.fz (.list ds)) → Q v H') : ∀ p, H p = none → Q (.ref p) (upd H p (.lst vs)) := fun p hp =>
  have x := Xt.new (o := .lst vs) f hp
  h _ _ _ x (.fz (.lst (SqL.of upd_same) (r.sub x.sub)))
theorem new_tuple {k : Kc} {F H : Hp} {S : List Addr} {vs : List V} {ds : List PD} {Q : VK} (f : FLe F H) (r : Reps k.K F vs ds) (h : ∀ v F' H', Xt F H F' H' → Vw k F' H' S v (.fz (.tuple ds)) → Q v H') : ∀ p, H p = none → Q (.ref p) (upd H p (.tup vs)) := fun p hp =>
  have x := Xt.new (o := .tup vs) f hp
  h _ _ _ x (.fz (.tup upd_same (r.sub x.sub)))
theorem own_list {k : Kc} {F H : Hp} {vs : List V} {ds : List PD} {Q : VK} (f : FLe F H) (r : Reps k.K F vs ds) (h : ∀ v F' H' T, Xt F H F' H' → Own k F' H' v (.lst ds) T → Fresh F' H H' T → Q v H') : ∀ p, H p = none → Q (.ref p) (upd H p (.lst vs)) := fun p hp =>
  have x := Xt.own (o := .lst vs) f hp
  h _ _ _ [p] x (.lst (.inl upd_same) r) ⟨List.nodup_cons.mpr ⟨List.not_mem_nil, .nil⟩, (fun a m => by rw [List.mem_singleton.mp m]; exact hp), (fun a m => by rw [List.mem_singleton.mp m]; exact fle_none f hp), (fun a m o u z => by rw [List.mem_singleton.mp m, upd_same] at z; cases z)⟩
theorem seqT_eq {o : O} {ds : List PD} (e : seqT o = some ds) : o = .fz (.tuple ds) := by
  unfold seqT at e
  split at e
  · have e' := Option.some.inj e
    subst e'
    rfl
  · cases e
theorem ov_add {k : Kc} : OpV k (rAddU k.K) oAdd := by
  intro F H S x y ox oy o Q f off th wx wy e h
  unfold oAdd at e
  split at e
  · have e' := Option.some.inj e
    subst e'
    exact .inl ⟨_, _, wx.int, wy.int, h _ F H (Xt.refl f) (.fz (.int _))⟩
  · split at e
    · rename_i hz
      have e' := Option.some.inj e
      subst e'
      exact .inr (.inl ⟨_, _, wx.str, wy.str, hz, h _ F H (Xt.refl f) (.fz (.str _))⟩)
    · cases e
  · split at e
    · rename_i a b ea eb
      split at e
      · rename_i hz
        have e' := Option.some.inj e
        subst e'
        obtain ⟨p, vs, rfl, hs, rs⟩ := wx.seqL f ea
        obtain ⟨p2, vs2, rfl, hs2, rs2⟩ := wy.seqL f eb
        exact .inr (.inr (.inl ⟨p, p2, vs, vs2, rfl, rfl, hs, hs2, by rw [rs.length, rs2.length]; exact hz, new_list f (rs.append rs2) h⟩))
      · cases e
    · split at e
      · rename_i a b ea eb
        split at e
        · rename_i hz
          have e' := Option.some.inj e
          subst e'
          obtain ⟨p, vs, rfl, hs, rs⟩ := wx.seqT f ea
          obtain ⟨p2, vs2, rfl, hs2, rs2⟩ := wy.seqT f eb
          have l1 := rs.length
          have l2 := rs2.length
          rw [seqT_eq ea] at wx
          rw [seqT_eq eb] at wy
          refine .inr (.inr (.inr ⟨p, p2, vs, vs2, rfl, rfl, SqT.of hs, SqT.of hs2, by rw [l1, l2]; exact hz, fun e0 => ?_, fun _ e0 => ?_, fun _ _ => new_tuple f (rs.append rs2) h⟩))
          · have : a = [] := List.length_eq_zero_iff.mp (by rw [← l1, e0]; rfl)
            rw [this] at h
            exact h _ F H (Xt.refl f) wy
          · have : b = [] := List.length_eq_zero_iff.mp (by rw [← l2, e0]; rfl)
            rw [this, List.append_nil] at h
            exact h _ F H (Xt.refl f) wx
        · cases e
      · cases e
/-- ints -/
def oI (c : Int → Int → Bool) (g : Int → Int → PD) (x y : O) : Option O :=
  match x, y with
  | .fz (.int a), .fz (.int b) => if c a b then some (.fz (g a b)) else none
  | _, _ => none
theorem ov_I {k : Kc} {C : Int → Int → Prop} {c : Int → Int → Bool} {g : Int → Int → V} {gd : Int → Int → PD} (hc : ∀ a b, c a b = true → C a b) (hg : ∀ F a b, Rep k.K F (g a b) (gd a b)) : OpV k (rI C g) (oI c gd) := by
  intro F H S x y ox oy o Q f off th wx wy e h
  unfold oI at e
  split at e
  · split at e
    · rename_i hz
      have e' := Option.some.inj e
      subst e'
      exact ⟨_, _, wx.int, wy.int, hc _ _ hz, h _ F H (Xt.refl f) (.fz (hg F _ _))⟩
    · cases e
  · cases e
def oI0 (g : Int → Int → PD) (x y : O) : Option O :=
  match x, y with
  | .fz (.int a), .fz (.int b) => some (.fz (g a b))
  | _, _ => none
theorem ov_I0 {k : Kc} {g : Int → Int → V} {gd : Int → Int → PD} (hg : ∀ F a b, Rep k.K F (g a b) (gd a b)) : OpV k (rI0 g) (oI0 gd) := by
  intro F H S x y ox oy o Q f off th wx wy e h
  unfold oI0 at e
  split at e
  · have e' := Option.some.inj e
    subst e'
    exact ⟨_, _, wx.int, wy.int, h _ F H (Xt.refl f) (.fz (hg F _ _))⟩
  · cases e
abbrev oSub := oI0 fun a b => .int (a - b)
theorem ov_sub {k : Kc} : OpV k (rI0 fun i j => .int (i - j)) oSub := ov_I0 fun _ _ _ => .int _
/-- the left operand small, the right one small, or both of less than 300,000 bits -/
def CMulA (i j : Int) : Prop := CMul i j ∨ CMulW i j
theorem op_mulA : OpR X (binaryOp .Mult) (rI CMulA fun i j => .int (i * j)) := opI fun i j t u Q E s hc q => mul_int q (hc.elim (fun z => z.ok) fun z => z.ok)
noncomputable def small64 (i : Int) : Bool := @decide (-(2 ^ 64) < i ∧ i < 2 ^ 64) (Classical.propDecidable _)
noncomputable def cMul (i j : Int) : Bool := small64 i || small64 j || (decide (i.natAbs < 2 ^ 400000) && decide (j.natAbs < 2 ^ 400000))
theorem cMul_ok (a b : Int) (h : cMul a b = true) : CMulA a b := by
  unfold cMul small64 at h
  simp only [Bool.or_eq_true, Bool.and_eq_true, decide_eq_true_eq] at h
  rcases h with (h | h) | h
  · exact .inl (.inl h)
  · exact .inl (.inr h)
  · exact .inr (wide_mul h.1 h.2 (by decide) (by decide) (by decide))
def rRepL (K : Frag) : R2 := fun x y H Q => ∃ l k xs, x = .ref l ∧ y = .int k ∧ SqL K H l xs ∧ -(2 ^ 63) ≤ k ∧ k < 2 ^ 63 ∧ xs.length * k.toNat ≤ sizeLine ∧
  ∀ p, H p = none → Q (.ref p) (upd H p (.lst (List.replicate k.toNat xs).flatten))
theorem op_repL : OpR X (binaryOp .Mult) (rRepL X.K) := by
  intro pins s σ H x y v u Q I rx ry h
  obtain ⟨l, k, xs, rfl, rfl, hH, h1, h2, hz, q⟩ := h
  cases rx
  obtain ⟨t, rfl⟩ := ry
  obtain ⟨its, r, p1, _⟩ := I.list hH
  have hl := r.length
  obtain ⟨⟨cls, dd, data, sl⟩, e, hc, n, hd⟩ := p1.isList
  simp only at hc hd
  subst hc hd
  have hlen : its.toArray.size * k.toNat ≤ sizeLine := by rw [List.size_toArray, ← hl]; exact hz
  have hcap : ¬ its.toArray.size * k.toNat > (2 ^ 63 - 1) / 8 := by
    have : (sizeLine : Nat) ≤ (2 ^ 63 - 1) / 8 := by decide
    omega
  have hfit : ¬ (!Builtin.List.listFitsIndex k) = true := by
    rw [fitsIndex_both h1 h2]
    exact Bool.false_ne_true
  have hlong : ¬ Builtin.List.listTooLong (its.toArray.size * k.toNat) = true := by
    rw [notLongL hlen]
    exact Bool.false_ne_true
  have hnew : List.foldl (fun x1 x2 => x1 ++ x2) #[] (List.replicate (if its.toArray.isEmpty = true then 0 else k.toNat) its.toArray) = (List.replicate k.toNat its).flatten.toArray := by
    have f0 : ∀ m : Nat, List.foldl (fun x1 x2 => x1 ++ x2) #[] (List.replicate m its.toArray) = (List.replicate m its).flatten.toArray := fun m => by
      have := foldl_rep its m []
      rw [List.nil_append] at this
      exact this
    rw [f0]
    cases its with
    | nil => simp
    | cons a r' => rw [if_neg (by simp)]
  refine wpAny_binaryOp_repeat_ref (T := "list") (U := "int") (by decide) ⟨_, e, rfl⟩ (fun s' => typeIs_int s' k t) noFill_list_mul F.fills_int_mul F.slot_int_rmul repeat_list F.slot_int_index.lookup
    (call_meets F.slot_int_rmul (typeIs_int s k t) F.entry_int_rmul (F.args_int_rmul_2 _ _) (int_rmulW k t l its.toArray n dd sl)
      ⟨e, rfl, ⟨_, e, rfl⟩, call_meets F.slot_list_mul ⟨_, e, rfl⟩ F.entry_list_mul (F.args_list_mul_2 _ _) (list_mulW l its.toArray n dd sl k t hfit hcap hlong) ⟨e, ?_⟩⟩)
  rw [hnew]
  exact ⟨.ref _, _, I.lnew (t' := s.toks) (r.rep k.toNat) (by rw [PyProof.Rows.lm_len_rep_flat, Nat.mul_comm]; exact hz), rfl, q _ I.fresh⟩
theorem Reps.rep {K : Frag} {F : Hp} {vs : List V} {ds : List PD} (r : Reps K F vs ds) : ∀ n : Nat, Reps K F (List.replicate n vs).flatten (List.replicate n ds).flatten
  | 0 => by simp only [List.replicate_zero, List.flatten_nil]; exact .nil
  | n + 1 => by
    rw [List.replicate_succ, List.replicate_succ, List.flatten_cons, List.flatten_cons]
    exact r.append (Reps.rep r n)
def rMulU (K : Frag) : R2 := fun x y H Q => rI CMulA (fun i j => .int (i * j)) x y H Q ∨ rRepL K x y H Q
theorem op_mulU : OpR X (binaryOp .Mult) (rMulU X.K) := op_mulA.or op_repL
noncomputable def oMul (x y : O) : Option O :=
  match x, y with
  | .fz (.int a), .fz (.int b) => if cMul a b then some (.fz (.int (a * b))) else none
  | x, .fz (.int b) => match seqL x with
    | some a => if -(2 ^ 63) ≤ b ∧ b < 2 ^ 63 ∧ a.length * b.toNat ≤ sizeLine then some (.fz (.list (List.replicate b.toNat a).flatten)) else none
    | none => none
  | _, _ => none
theorem ov_mul {k : Kc} : OpV k (rMulU k.K) oMul := by
  intro F H S x y ox oy o Q f off th wx wy e h
  unfold oMul at e
  split at e
  · split at e
    · rename_i hz
      have e' := Option.some.inj e
      subst e'
      exact .inl ⟨_, _, wx.int, wy.int, cMul_ok _ _ hz, h _ F H (Xt.refl f) (.fz (.int _))⟩
    · cases e
  · split at e
    · rename_i a ea
      split at e
      · rename_i hz
        have e' := Option.some.inj e
        subst e'
        obtain ⟨p, vs, rfl, hs, rs⟩ := wx.seqL f ea
        exact .inr ⟨p, _, vs, rfl, wy.int, hs, hz.1, hz.2.1, by rw [rs.length]; exact hz.2.2, new_list f (rs.rep _) h⟩
      · cases e
    · cases e
  · cases e
def cDiv (_ j : Int) : Bool := decide (0 < j) && decide (j.natAbs < 2 ^ 8000)
theorem cDiv_ok (a b : Int) (h : cDiv a b = true) : CDivW a b := by
  unfold cDiv at h
  simp only [Bool.and_eq_true, decide_eq_true_eq] at h
  exact wide_div h.1 h.2 (by decide) (by decide)
abbrev oDiv := oI cDiv fun a b => .int (a / b)
theorem ov_div {k : Kc} : OpV k (rI CDivW fun i j => .int (i / j)) oDiv := ov_I cDiv_ok fun _ _ _ => .int _
abbrev oMod := oI (fun _ b => decide (0 < b)) fun a b => .int (a % b)
theorem ov_mod {k : Kc} : OpV k (rI (fun _ j => 0 < j) fun i j => .int (i % j)) oMod := ov_I (fun _ _ h => of_decide_eq_true h) fun _ _ _ => .int _
def cPow (i j : Int) : Bool := decide (0 ≤ j) && decide (j ≤ 1000000) && decide (i.natAbs < 2 ^ 64)
abbrev oPow := oI cPow fun a b => .int (a ^ b.toNat)
theorem ov_pow {k : Kc} : OpV k (rI CPow fun i j => .int (i ^ j.toNat)) oPow := ov_I (fun a b h => by
  unfold cPow at h
  simp only [Bool.and_eq_true, decide_eq_true_eq] at h
  exact ⟨h.1.1, h.1.2, h.2⟩) fun _ _ _ => .int _
abbrev oLt := oI0 fun a b => .bool (decide (a < b))
abbrev oLe := oI0 fun a b => .bool (decide (a ≤ b))
abbrev oGt := oI0 fun a b => .bool (decide (b < a))
abbrev oGe := oI0 fun a b => .bool (decide (b ≤ a))
theorem ov_lt {k : Kc} : OpV k (rI0 fun i j => .bl (decide (i < j))) oLt := ov_I0 fun _ _ _ => .bl _
theorem ov_le {k : Kc} : OpV k (rI0 fun i j => .bl (decide (i ≤ j))) oLe := ov_I0 fun _ _ _ => .bl _
theorem ov_gt {k : Kc} : OpV k (rI0 fun i j => .bl (decide (j < i))) oGt := ov_I0 fun _ _ _ => .bl _
theorem ov_ge {k : Kc} : OpV k (rI0 fun i j => .bl (decide (j ≤ i))) oGe := ov_I0 fun _ _ _ => .bl _
def oNeg : O → Option O
  | .fz (.int a) => some (.fz (.int (-a)))
  | _ => none
theorem uv_neg {k : Kc} : UnV k (rU fun i => .int (-i)) oNeg := by
  intro F H S x ox o Q f off th wx e h
  unfold oNeg at e
  split at e
  · have e' := Option.some.inj e
    subst e'
    exact ⟨_, wx.int, h _ F H (Xt.refl f) (.fz (.int _))⟩
  · cases e
/-! ### == and != -/
def rEqU (K : Frag) : R2 := fun x y H Q => rEq x y H Q ∨ rEqD K x y H Q
def rNeU (K : Frag) : R2 := fun x y H Q => rNe x y H Q ∨ rNeD K x y H Q
theorem op_eqU (hu : X.A.units + 64 < cLine) : OpR X (compareOp .Eq) (rEqU X.K) := op_eq.or (op_eqD hu)
theorem op_neU (hu : X.A.units + 64 < cLine) : OpR X (compareOp .NotEq) (rNeU X.K) := op_ne.or (op_neD hu)
def oEqD (x y : O) : Option O := match toPD x, toPD y with
  | some d, some e => if SeqAt.shaped d && SeqAt.shaped e then some (.fz (.bool (PyData.eqv d e))) else none
  | _, _ => none
def oNeD (x y : O) : Option O := match toPD x, toPD y with
  | some d, some e => if SeqAt.shaped d && SeqAt.shaped e then some (.fz (.bool (!PyData.eqv d e))) else none
  | _, _ => none
def strs2 : O → O → Option (Str × Str)
  | .fz (.str a), .fz (.str b) => some (a, b)
  | _, _ => none
def oEq (x y : O) : Option O := match strs2 x y with
  | some p => some (.fz (.bool (decide (p.1 = p.2))))
  | none => oEqD x y
def oNe (x y : O) : Option O := match strs2 x y with
  | some p => some (.fz (.bool (!decide (p.1 = p.2))))
  | none => oNeD x y
theorem strs2_eq {x y : O} {p : Str × Str} (e : strs2 x y = some p) : x = .fz (.str p.1) ∧ y = .fz (.str p.2) := by
  unfold strs2 at e
  split at e
  · have e' := Option.some.inj e
    subst e'
    exact ⟨rfl, rfl⟩
  · cases e
theorem dec_str (a b : Str) : decide (V.str a = V.str b) = decide (a = b) := decide_eq_decide.mpr ⟨fun e => V.str.inj e, fun e => by rw [e]⟩
theorem ov_eq {k : Kc} : OpV k (rEqU k.K) oEq := by
  intro F H S x y ox oy o Q f off th wx wy e h
  unfold oEq at e
  split at e
  · rename_i p ep
    obtain ⟨e1, e2⟩ := strs2_eq ep
    subst e1 e2
    have e' := Option.some.inj e
    subst e'
    have h1 := wx.str
    have h2 := wy.str
    subst h1 h2
    refine .inl ⟨rfl, ?_⟩
    rw [dec_str]
    exact h _ F H (Xt.refl f) (.fz (.bl _))
  · unfold oEqD at e
    split at e
    · rename_i d d2 e1 e2
      split at e
      · rename_i hz
        have hz := Bool.and_eq_true_iff.mp hz
        have e' := Option.some.inj e
        subst e'
        exact .inr ⟨d, d2, (wx.at_ f e1).dp (SeqAt.canLay_of_shaped hz.1), (wy.at_ f e2).dp (SeqAt.canLay_of_shaped hz.2), hz.1, hz.2, h _ F H (Xt.refl f) (.fz (.bl _))⟩
      · cases e
    · cases e
theorem ov_ne {k : Kc} : OpV k (rNeU k.K) oNe := by
  intro F H S x y ox oy o Q f off th wx wy e h
  unfold oNe at e
  split at e
  · rename_i p ep
    obtain ⟨e1, e2⟩ := strs2_eq ep
    subst e1 e2
    have e' := Option.some.inj e
    subst e'
    have h1 := wx.str
    have h2 := wy.str
    subst h1 h2
    refine .inl ⟨rfl, ?_⟩
    rw [dec_str]
    exact h _ F H (Xt.refl f) (.fz (.bl _))
  · unfold oNeD at e
    split at e
    · rename_i d d2 e1 e2
      split at e
      · rename_i hz
        have hz := Bool.and_eq_true_iff.mp hz
        have e' := Option.some.inj e
        subst e'
        exact .inr ⟨d, d2, (wx.at_ f e1).dp (SeqAt.canLay_of_shaped hz.1), (wy.at_ f e2).dp (SeqAt.canLay_of_shaped hz.2), hz.1, hz.2, h _ F H (Xt.refl f) (.fz (.bl _))⟩
      · cases e
    · cases e
/-! ### is None, is True -/
def rIsU : R2 := fun x y H Q => (y = .non ∧ Q (.bl (decide (x = .non))) H)
def oIsN (x y : O) : Option O := match y with
  | .fz .none => match toPD x with
    | some .none => some (.fz (.bool true))
    | some _ => some (.fz (.bool false))
    | none => none
  | _ => none
def oNotN (x y : O) : Option O := match y with
  | .fz .none => match toPD x with
    | some .none => some (.fz (.bool false))
    | some _ => some (.fz (.bool true))
    | none => none
  | _ => none
theorem Rep.non_iff {K : Frag} {H : Hp} {v : V} {d : PD} (h : Rep K H v d) : v = .non ↔ d = .none := by
  cases h with
  | dic _ _ e => subst e; simp
  | dit _ _ e => subst e; simp
  | _ => simp
theorem ov_isN {k : Kc} : OpV k (fun x y H Q => y = .non ∧ Q (.bl (decide (x = .non))) H) oIsN := by
  intro F H S x y ox oy o Q f off th wx wy e h
  unfold oIsN at e
  split at e
  · refine ⟨wy.non, ?_⟩
    split at e
    · rename_i e1
      have e' := Option.some.inj e
      subst e'
      rw [decide_eq_true ((wx.at_ f e1).non_iff.mpr rfl)]
      exact h _ F H (Xt.refl f) (.fz (.bl _))
    · rename_i d hd e1
      have e' := Option.some.inj e
      subst e'
      rw [decide_eq_false fun z => hd ((wx.at_ f e1).non_iff.mp z)]
      exact h _ F H (Xt.refl f) (.fz (.bl _))
    · cases e
  · cases e
theorem ov_notN {k : Kc} : OpV k (fun x y H Q => y = .non ∧ Q (.bl (!decide (x = .non))) H) oNotN := by
  intro F H S x y ox oy o Q f off th wx wy e h
  unfold oNotN at e
  split at e
  · refine ⟨wy.non, ?_⟩
    split at e
    · rename_i e1
      have e' := Option.some.inj e
      subst e'
      rw [decide_eq_true ((wx.at_ f e1).non_iff.mpr rfl)]
      exact h _ F H (Xt.refl f) (.fz (.bl _))
    · rename_i d hd e1
      have e' := Option.some.inj e
      subst e'
      rw [decide_eq_false fun z => hd ((wx.at_ f e1).non_iff.mp z)]
      exact h _ F H (Xt.refl f) (.fz (.bl _))
    · cases e
  · cases e
end
end FM
namespace FM
open PySem L2 PyProof.Rows
section
variable {X : Cx}
/-! ### is, of truths -/
def oIsB (x y : O) : Option O := match x, y with
  | .fz (.bool a), .fz (.bool b) => some (.fz (.bool (decide (a = b))))
  | _, _ => none
def oNotB (x y : O) : Option O := match x, y with
  | .fz (.bool a), .fz (.bool b) => some (.fz (.bool (!decide (a = b))))
  | _, _ => none
theorem ov_isB {k : Kc} : OpV k rIsB oIsB := by
  intro F H S x y ox oy o Q f off th wx wy e h
  unfold oIsB at e
  split at e
  · have e' := Option.some.inj e
    subst e'
    exact ⟨_, _, wx.bl, wy.bl, h _ F H (Xt.refl f) (.fz (.bl _))⟩
  · cases e
theorem ov_notB {k : Kc} : OpV k rNotB oNotB := by
  intro F H S x y ox oy o Q f off th wx wy e h
  unfold oNotB at e
  split at e
  · have e' := Option.some.inj e
    subst e'
    exact ⟨_, _, wx.bl, wy.bl, h _ F H (Xt.refl f) (.fz (.bl _))⟩
  · cases e

/-! ### dicts -/
def unkp : List (PD × PD) → Option (List (Key × PD))
  | [] => some []
  | (.int i, d) :: r => (unkp r).map fun z => (.inl i, d) :: z
  | (.str x, d) :: r => (unkp r).map fun z => (.inr x, d) :: z
  | _ :: _ => none
theorem unkp_kp : ∀ ds : List (Key × PD), unkp (ds.map kp) = some ds
  | [] => rfl
  | (.inl i, d) :: r => by
    show (unkp (r.map kp)).map _ = _
    rw [unkp_kp r]; rfl
  | (.inr i, d) :: r => by
    show (unkp (r.map kp)).map _ = _
    rw [unkp_kp r]; rfl
def unks : List PD → Option (List Key)
  | [] => some []
  | .int i :: r => (unks r).map fun z => .inl i :: z
  | .str x :: r => (unks r).map fun z => .inr x :: z
  | _ :: _ => none
theorem unks_keyD : ∀ ks : List Key, unks (ks.map keyD) = some ks
  | [] => rfl
  | .inl i :: r => by
    show (unks (r.map keyD)).map _ = _
    rw [unks_keyD r]; rfl
  | .inr i :: r => by
    show (unks (r.map keyD)).map _ = _
    rw [unks_keyD r]; rfl
def untp : List (PD × PD) → Option (List (List Key × PD))
  | [] => some []
  | (.tuple ks, d) :: r => match unks ks, untp r with
    | some k, some z => some ((k, d) :: z)
    | _, _ => none
  | _ :: _ => none
theorem untp_tp : ∀ ds : List (List Key × PD), untp (ds.map tp) = some ds
  | [] => rfl
  | (k, d) :: r => by
    show (match unks (k.map keyD), untp (r.map tp) with | some k, some z => some ((k, d) :: z) | _, _ => none) = _
    rw [unks_keyD, untp_tp r]
theorem unkp_tp {p : List Key × PD} {r : List (List Key × PD)} : unkp ((p :: r).map tp) = none := rfl
theorem untp_kp : ∀ {p : Key × PD} {r : List (Key × PD)}, untp ((p :: r).map kp) = none
  | (.inl _, _), _ => rfl
  | (.inr _, _), _ => rfl
/-- a dict by int and text keys -/
def dicK : O → Option (List (Key × PD))
  | .dic ds => some ds
  | .fz (.dict (p :: r)) => unkp (p :: r)
  | _ => none
def dicT : O → Option (List (List Key × PD))
  | .dit ds => some ds
  | .fz (.dict (p :: r)) => untp (p :: r)
  | _ => none
theorem Vw.dicK {k : Kc} {F H : Hp} {S : List Addr} {v : V} {o : O} {ds : List (Key × PD)} (h : Vw k F H S v o) (s : FLe F H) (e : FM.dicK o = some ds) : ∃ a vs, v = .ref a ∧ Rd H a (.dK vs) ∧ RepK k.K F vs ds := by
  obtain ⟨T, _, q⟩ := h
  unfold FM.dicK at e
  split at e
  · have e' := Option.some.inj e
    subst e'
    cases q with
    | dic h1 h2 => exact ⟨_, _, rfl, h1, h2⟩
  · cases q with
    | fz r =>
      cases r with
      | dic h1 h2 h3 =>
        have h3 := PyData.dict.inj h3
        rw [h3, unkp_kp] at e
        have e' := Option.some.inj e
        subst e'
        exact ⟨_, _, rfl, rd_le s h1, h2⟩
      | @dit a kvs ds2 _ h1 h2 h3 =>
        have h3 := PyData.dict.inj h3
        cases ds2 with
        | nil => cases h3
        | cons p r => rw [h3, unkp_tp] at e; cases e
  · cases e
theorem Vw.dicT {k : Kc} {F H : Hp} {S : List Addr} {v : V} {o : O} {ds : List (List Key × PD)} (h : Vw k F H S v o) (s : FLe F H) (e : FM.dicT o = some ds) : ∃ a vs, v = .ref a ∧ Rd H a (.dT vs) ∧ RepT k.K F vs ds := by
  obtain ⟨T, _, q⟩ := h
  unfold FM.dicT at e
  split at e
  · have e' := Option.some.inj e
    subst e'
    cases q with
    | dit h1 h2 => exact ⟨_, _, rfl, h1, h2⟩
  · cases q with
    | fz r =>
      cases r with
      | @dic a kvs ds2 _ h1 h2 h3 =>
        have h3 := PyData.dict.inj h3
        cases ds2 with
        | nil => cases h3
        | cons p r => rw [h3, untp_kp] at e; cases e
      | dit h1 h2 h3 =>
        have h3 := PyData.dict.inj h3
        rw [h3, untp_tp] at e
        have e' := Option.some.inj e
        subst e'
        exact ⟨_, _, rfl, rd_le s h1, h2⟩
  · cases e
def keyO : O → Option Key
  | .fz (.int i) => some (.inl i)
  | .fz (.str x) => some (.inr x)
  | _ => none
def keysO : O → Option (List Key)
  | .fz (.tuple ds) => unks ds
  | _ => none
theorem Vw.keyO {k : Kc} {F H : Hp} {S : List Addr} {v : V} {o : O} {x : Key} (h : Vw k F H S v o) (e : FM.keyO o = some x) : v = kV x := by
  unfold FM.keyO at e
  split at e
  · have e' := Option.some.inj e
    subst e'
    exact h.int
  · have e' := Option.some.inj e
    subst e'
    exact h.str
  · cases e
theorem Reps.keys {K : Frag} {F : Hp} : ∀ {vs : List V} {ds : List PD} {ks : List Key}, Reps K F vs ds → unks ds = some ks → vs = ks.map kV
  | _, _, _, .nil, e => by
    have e' := Option.some.inj e
    subst e'
    rfl
  | _, _, _, .cons (d := d) (ds := ds) h r, e => by
    cases d with
    | int i =>
      have e : (unks ds).map _ = some _ := e
      cases q : unks ds with
      | none => rw [q] at e; cases e
      | some z =>
        rw [q] at e
        have e' := Option.some.inj e
        subst e'
        rw [Reps.keys r q]
        cases h with
        | int => rfl
        | dic _ _ e => cases e
        | dit _ _ e => cases e
    | str i =>
      have e : (unks ds).map _ = some _ := e
      cases q : unks ds with
      | none => rw [q] at e; cases e
      | some z =>
        rw [q] at e
        have e' := Option.some.inj e
        subst e'
        rw [Reps.keys r q]
        cases h with
        | str => rfl
        | dic _ _ e => cases e
        | dit _ _ e => cases e
    | _ => cases e
theorem Vw.keysO {k : Kc} {F H : Hp} {S : List Addr} {v : V} {o : O} {x : List Key} (h : Vw k F H S v o) (f : FLe F H) (e : FM.keysO o = some x) : ∃ b, v = .ref b ∧ H b = some (.tup (x.map kV)) := by
  unfold FM.keysO at e
  split at e
  · obtain ⟨a, vs, rfl, h1, h2⟩ := h.seqT f rfl
    rw [h2.keys e] at h1
    exact ⟨a, rfl, h1⟩
  · cases e
def lk {κ : Type} [DecidableEq κ] {α : Type} (kvs : List (κ × α)) (k : κ) : Option α := (kvs.find? fun p => decide (p.1 = k)).map (·.2)
theorem RepK.val {K : Frag} {F : Hp} (x : Key) : ∀ {vs : List (Key × V)} {ds : List (Key × PD)}, RepK K F vs ds → (lk ds x = none ∧ valV vs x = none) ∨ ∃ d v, lk ds x = some d ∧ valV vs x = some v ∧ Rep K F v d
  | _, _, .nil => .inl ⟨rfl, rfl⟩
  | _, _, .cons (k := k) h r => by
    by_cases e : k = x
    · refine .inr ⟨_, _, ?_, valV_pos e, h⟩
      simp [lk, List.find?_cons, e]
    · rcases RepK.val x r with ⟨q1, q2⟩ | ⟨d, v, q1, q2, q3⟩
      · refine .inl ⟨?_, by rw [valV_neg e]; exact q2⟩
        simpa [lk, List.find?_cons, e] using q1
      · refine .inr ⟨d, v, ?_, by rw [valV_neg e]; exact q2, q3⟩
        simpa [lk, List.find?_cons, e] using q1
theorem RepT.val {K : Frag} {F : Hp} (x : List Key) : ∀ {vs : List (List Key × V)} {ds : List (List Key × PD)}, RepT K F vs ds → (lk ds x = none ∧ valV vs x = none) ∨ ∃ d v, lk ds x = some d ∧ valV vs x = some v ∧ Rep K F v d
  | _, _, .nil => .inl ⟨rfl, rfl⟩
  | _, _, .cons (k := k) h r => by
    by_cases e : k = x
    · refine .inr ⟨_, _, ?_, valV_pos e, h⟩
      simp [lk, List.find?_cons, e]
    · rcases RepT.val x r with ⟨q1, q2⟩ | ⟨d, v, q1, q2, q3⟩
      · refine .inl ⟨?_, by rw [valV_neg e]; exact q2⟩
        simpa [lk, List.find?_cons, e] using q1
      · refine .inr ⟨d, v, ?_, by rw [valV_neg e]; exact q2, q3⟩
        simpa [lk, List.find?_cons, e] using q1
/-- what a dict holds at a key -/
def oLook (d x : O) : Option (Option PD) := match dicK d, keyO x with
  | some ds, some k => some (lk ds k)
  | _, _ => match dicT d, keysO x with
    | some ds, some k => some (lk ds k)
    | _, _ => none
theorem look_ok {k : Kc} {F H : Hp} {S : List Addr} {x y : V} {ox oy : O} {r : Option PD} (wx : Vw k F H S x ox) (wy : Vw k F H S y oy) (f : FLe F H) (e : oLook ox oy = some r) :
    ∃ a z, x = .ref a ∧ DGet H a y z ∧ ((r = none ∧ z = none) ∨ ∃ d v, r = some d ∧ z = some v ∧ Rep k.K F v d) := by
  unfold oLook at e
  split at e
  · rename_i ds kk e1 e2
    have e' := Option.some.inj e
    subst e'
    obtain ⟨a, vs, rfl, h1, h2⟩ := wx.dicK f e1
    refine ⟨a, valV vs kk, rfl, .inl ⟨vs, kk, h1, wy.keyO e2, rfl⟩, ?_⟩
    exact h2.val kk
  · split at e
    · rename_i ds kk e1 e2
      have e' := Option.some.inj e
      subst e'
      obtain ⟨a, vs, rfl, h1, h2⟩ := wx.dicT f e1
      obtain ⟨b, rfl, h3⟩ := wy.keysO f e2
      refine ⟨a, valV vs kk, rfl, .inr ⟨vs, kk, b, h1, rfl, h3, rfl⟩, ?_⟩
      exact h2.val kk
    · cases e
def rIxD : R2 := fun x y H Q => ∃ a v, x = .ref a ∧ DGet H a y (some v) ∧ Q v H
theorem ix_dict (hu : X.A.units + 1 < cLine) : IxR X rIxD := by
  intro value slice pins s σ H x y v u Q I rx ry h hs
  obtain ⟨a, z, rfl, g, q⟩ := h
  cases rx
  exact tail_any (dict_typeIs I g) PySem.F.slot_dict_getitem.lookup (d_getItem hu I g ry fun w' s' I' r => ⟨z, H, I', r, q⟩) hs
def rIxU (K : Frag) : R2 := fun x y H Q => rIx K x y H Q ∨ rIxD x y H Q
theorem ix_U (hu : X.A.units + 1 < cLine) : IxR X (rIxU X.K) := ix_seq.or (ix_dict hu)
/-- x[i] -/
def oIx (x y : O) : Option O := match y with
  | .fz (.int i) => match seqL x with
    | some ds => (atI ds i).map .fz
    | none => match seqR x with
      | some ds => (atI ds i).map .fz
      | none => match x with
        | .fz (.str z) => if z.length ≤ sizeLine then (atI z.cps.toList i).map fun c => .fz (.str ⟨#[c]⟩) else none
        | .nst os => atI os i
        | .ntp os => atI os i
        | x => match oLook x y with
          | some (some d) => some (.fz d)
          | _ => none
  | y => match oLook x y with
    | some (some d) => some (.fz d)
    | _ => match x, keyO y with
      | .ndc os, some k => lk os k
      | _, _ => none
theorem Reps.at_ {K : Frag} {F : Hp} {vs : List V} {ds : List PD} {i : Int} {d : PD} (r : Reps K F vs ds) (e : atI ds i = some d) : ∃ v, atI vs i = some v ∧ Rep K F v d := by
  unfold atI at e ⊢
  rw [r.length]
  cases q : ixN ds.length i with
  | none => rw [q] at e; cases e
  | some j =>
    rw [q] at e
    exact r.get (i := j) e
inductive Ows (k : Kc) (F H : Hp) (S : List Addr) : List V → List O → Prop
  | nil : Ows k F H S [] []
  | cons {v : V} {o : O} {vs : List V} {os : List O} : Vw k F H S v o → Ows k F H S vs os → Ows k F H S (v :: vs) (o :: os)
theorem Owns.views {k : Kc} {F H : Hp} {U : List Addr} : ∀ {vs : List V} {os : List O} {S : List Addr}, (∀ a ∈ S, a ∈ U) → Owns k F H vs os S → Ows k F H U vs os
  | _, _, _, _, .nil => .nil
  | _, _, _, m, .cons h r => .cons ⟨_, fun a z => m a (List.mem_append_left _ z), h⟩ (Owns.views (fun a z => m a (List.mem_append_right _ z)) r)
theorem Ows.length {k : Kc} {F H : Hp} {S : List Addr} : ∀ {vs : List V} {os : List O}, Ows k F H S vs os → vs.length = os.length
  | _, _, .nil => rfl
  | _, _, .cons _ r => congrArg (· + 1) (Ows.length r)
theorem Ows.get {k : Kc} {F H : Hp} {S : List Addr} : ∀ {vs : List V} {os : List O} {i : Nat} {o : O}, Ows k F H S vs os → os[i]? = some o → ∃ v, vs[i]? = some v ∧ Vw k F H S v o
  | _, _, _, _, .nil, e => by simp at e
  | _, _, 0, _, .cons h r, e => by
    have e' : _ = _ := Option.some.inj (by simpa using e)
    subst e'
    exact ⟨_, rfl, h⟩
  | _, _, i + 1, _, .cons h r, e => by
    obtain ⟨v, q, w⟩ := Ows.get (i := i) r (by simpa using e)
    exact ⟨v, by simpa using q, w⟩
theorem Ows.at_ {k : Kc} {F H : Hp} {S : List Addr} {vs : List V} {os : List O} {i : Int} {o : O} (r : Ows k F H S vs os) (e : atI os i = some o) : ∃ v, atI vs i = some v ∧ Vw k F H S v o := by
  unfold atI at e ⊢
  rw [r.length]
  cases q : ixN os.length i with
  | none => rw [q] at e; cases e
  | some j =>
    rw [q] at e
    exact r.get (i := j) e
theorem OwnK.val {k : Kc} {F H : Hp} {U : List Addr} (x : Key) : ∀ {vs : List (Key × V)} {os : List (Key × O)} {S : List Addr} {o : O}, (∀ a ∈ S, a ∈ U) → OwnK k F H vs os S → lk os x = some o → ∃ v, valV vs x = some v ∧ Vw k F H U v o
  | _, _, _, _, _, .nil, e => by cases e
  | _, _, _, o, m, .cons (x := y) (o := o1) (os := os) h r, e => by
    by_cases q : y = x
    · have e1 : some o1 = some o := by simpa [lk, List.find?_cons, q] using e
      have e' := Option.some.inj e1
      subst e'
      exact ⟨_, valV_pos q, _, fun a z => m a (List.mem_append_left _ z), h⟩
    · have e1 : lk os x = some o := by simpa [lk, List.find?_cons, q] using e
      obtain ⟨v, h1, h2⟩ := OwnK.val x (fun a z => m a (List.mem_append_right _ z)) r e1
      exact ⟨v, by rw [valV_neg q]; exact h1, h2⟩
theorem ov_ix {k : Kc} : OpV k (rIxU k.K) oIx := by
  intro F H S x y ox oy o Q f off th wx wy e h
  have dict : ∀ {d : PD}, oLook ox oy = some (some d) → o = .fz d → rIxU k.K x y H Q := fun {d} e1 e2 => by
    subst e2
    obtain ⟨a, z, rfl, g, r⟩ := look_ok wx wy f e1
    rcases r with ⟨r, _⟩ | ⟨d', v, r1, r2, r3⟩
    · cases r
    · have r1' := Option.some.inj r1
      subst r1'
      subst r2
      exact .inr ⟨a, v, rfl, g, h _ F H (Xt.refl f) (.fz r3)⟩
  unfold oIx at e
  split at e
  · split at e
    · rename_i ds es
      obtain ⟨a, vs, rfl, h1, h2⟩ := wx.seqL f es
      obtain ⟨d, e1, e2⟩ := Option.map_eq_some_iff.mp e
      subst e2
      obtain ⟨v, h3, h4⟩ := h2.at_ e1
      exact .inl (.inl ⟨a, vs, _, v, rfl, wy.int, h1, h3, h _ F H (Xt.refl f) (.fz h4)⟩)
    · split at e
      · rename_i ds es
        obtain ⟨a, vs, rfl, h1, h2⟩ := wx.seqR f es
        obtain ⟨d, e1, e2⟩ := Option.map_eq_some_iff.mp e
        subst e2
        obtain ⟨v, h3, h4⟩ := h2.at_ e1
        exact .inl (.inr (.inl ⟨a, vs, _, v, rfl, wy.int, h1, h3, h _ F H (Xt.refl f) (.fz h4)⟩))
      · split at e
        · split at e
          · rename_i hz
            obtain ⟨c, e1, e2⟩ := Option.map_eq_some_iff.mp e
            subst e2
            exact .inl (.inr (.inr ⟨_, _, c, wx.str, wy.int, hz, e1, h _ F H (Xt.refl f) (.fz (.str _))⟩))
          · cases e
        · obtain ⟨T, m, q⟩ := wx
          cases q with
          | nst h1 h2 =>
            obtain ⟨v, h3, h4⟩ := (Owns.views (fun a z => m a (List.mem_cons_of_mem _ z)) h2).at_ e
            exact .inl (.inl ⟨_, _, _, v, rfl, wy.int, .inl h1, h3, h _ F H (Xt.refl f) h4⟩)
        · obtain ⟨T, m, q⟩ := wx
          cases q with
          | ntp h1 hg2 h2 =>
            obtain ⟨v, h3, h4⟩ := (Owns.views (fun a z => m a (List.mem_cons_of_mem _ z)) h2).at_ e
            exact .inl (.inr (.inl ⟨_, _, _, v, rfl, wy.int, SqT.of h1, h3, h _ F H (Xt.refl f) h4⟩))
        · split at e
          · rename_i e1
            exact dict e1 (Option.some.inj e).symm
          · cases e
  · split at e
    · rename_i e1
      exact dict e1 (Option.some.inj e).symm
    · split at e
      · rename_i os kk e2 _
        obtain ⟨T, m, q⟩ := wx
        cases q with
        | ndc h1 h2 =>
          obtain ⟨v, h3, h4⟩ := OwnK.val kk (fun a z => m a (List.mem_cons_of_mem _ z)) h2 e
          exact .inr ⟨_, v, rfl, .inl ⟨_, kk, h1, wy.keyO e2, h3.symm⟩, h _ F H (Xt.refl f) h4⟩
      · cases e
end
end FM
namespace FM
open PySem L2 PyProof.Rows
section
variable {X : Cx}
/-! ### in -/
theorem op_inT (hu : X.A.units + 65 < cLine) : OpR X (compareOp .In) (fun x y H Q => ∃ d ds, Dp X.K H x d ∧ Dp X.K H y (.tuple ds) ∧ SeqAt.shaped d = true ∧ SeqAt.shaped (.tuple ds) = true ∧ Q (.bl (ds.any fun z => PyData.eqv z d)) H) := by
  intro pins s σ H x y v u Q I rx ry h
  obtain ⟨d, ds, hd, he, sd, se, q⟩ := h
  obtain ⟨as, r1⟩ := Dp.reads I d x v hd rx
  obtain ⟨bs, r2⟩ := Dp.reads I (.tuple ds) y u he ry
  exact SeqAt.in_tuple_reads r2 r1 (SeqAt.canLay_of_shaped se) (SeqAt.canLay_of_shaped sd) (room_in_shaped sd hu) ⟨.bl _, H, I, rfl, q⟩
theorem op_notInT (hu : X.A.units + 65 < cLine) : OpR X (compareOp .NotIn) (fun x y H Q => ∃ d ds, Dp X.K H x d ∧ Dp X.K H y (.tuple ds) ∧ SeqAt.shaped d = true ∧ SeqAt.shaped (.tuple ds) = true ∧ Q (.bl (!ds.any fun z => PyData.eqv z d)) H) := by
  intro pins s σ H x y v u Q I rx ry h
  obtain ⟨d, ds, hd, he, sd, se, q⟩ := h
  obtain ⟨as, r1⟩ := Dp.reads I d x v hd rx
  obtain ⟨bs, r2⟩ := Dp.reads I (.tuple ds) y u he ry
  exact SeqAt.notIn_tuple_reads r2 r1 (SeqAt.canLay_of_shaped se) (SeqAt.canLay_of_shaped sd) (room_in_shaped sd hu) ⟨.bl _, H, I, rfl, q⟩
def rIn1 : R2 := fun x y H Q => ∃ i j, x = .str i ∧ y = .str j ∧ Q (.bl (!(Builtin.Str.occurrences j i 0 j.length 1).isEmpty)) H
def rNin1 : R2 := fun x y H Q => ∃ i j, x = .str i ∧ y = .str j ∧ Q (.bl (!(!(Builtin.Str.occurrences j i 0 j.length 1).isEmpty))) H
def rInDc : R2 := fun x y H Q => ∃ a o, y = .ref a ∧ DGet H a x o ∧ Q (.bl o.isSome) H
def rNinDc : R2 := fun x y H Q => ∃ a o, y = .ref a ∧ DGet H a x o ∧ Q (.bl (!o.isSome)) H
theorem op_inDc (hu : X.A.units + 1 < cLine) : OpR X (compareOp .In) rInDc := by
  intro pins s σ H x y v u Q I rx ry h
  obtain ⟨a, o, rfl, g, q⟩ := h
  cases ry
  exact d_in hu I g rx fun s' I' => ⟨.bl _, H, I', rfl, q⟩
theorem op_ninDc (hu : X.A.units + 1 < cLine) : OpR X (compareOp .NotIn) rNinDc := by
  intro pins s σ H x y v u Q I rx ry h
  obtain ⟨a, o, rfl, g, q⟩ := h
  cases ry
  exact d_notIn hu I g rx fun s' I' => ⟨.bl _, H, I', rfl, q⟩
def rInU (K : Frag) : R2 := fun x y H Q => rInD K x y H Q ∨ ((∃ d ds, Dp K H x d ∧ Dp K H y (.tuple ds) ∧ SeqAt.shaped d = true ∧ SeqAt.shaped (.tuple ds) = true ∧ Q (.bl (ds.any fun z => PyData.eqv z d)) H) ∨ (rIn1 x y H Q ∨ rInDc x y H Q))
def rNinU (K : Frag) : R2 := fun x y H Q => rNotInD K x y H Q ∨ ((∃ d ds, Dp K H x d ∧ Dp K H y (.tuple ds) ∧ SeqAt.shaped d = true ∧ SeqAt.shaped (.tuple ds) = true ∧ Q (.bl (!ds.any fun z => PyData.eqv z d)) H) ∨ (rNin1 x y H Q ∨ rNinDc x y H Q))
theorem op_inU (hu : X.A.units + 65 < cLine) : OpR X (compareOp .In) (rInU X.K) := (op_inD hu).or ((op_inT hu).or (OpR.or op_in_str (op_inDc (by omega))))
theorem op_ninU (hu : X.A.units + 65 < cLine) : OpR X (compareOp .NotIn) (rNinU X.K) := (op_notInD hu).or ((op_notInT hu).or (OpR.or op_notin_str (op_ninDc (by omega))))
/-- is x among y -/
def bIn (x y : O) : Option Bool := match x, y with
  | .fz (.str i), .fz (.str j) => some (!(Builtin.Str.occurrences j i 0 j.length 1).isEmpty)
  | x, y => match toPD x, seqL y with
    | some d, some ds => if SeqAt.shaped d && SeqAt.shaped (.list ds) then some (ds.any fun z => PyData.eqv z d) else none
    | some d, none => match seqR y with
      | some ds => if SeqAt.shaped d && SeqAt.shaped (.tuple ds) then some (ds.any fun z => PyData.eqv z d) else none
      | none => match oLook y x with
        | some r => some r.isSome
        | none => none
    | none, _ => none
def oIn (x y : O) : Option O := (bIn x y).map fun b => .fz (.bool b)
def oNin (x y : O) : Option O := (bIn x y).map fun b => .fz (.bool (!b))
theorem bin_ok {k : Kc} {F H : Hp} {S : List Addr} {x y : V} {ox oy : O} {b : Bool} (f : FLe F H) (wx : Vw k F H S x ox) (wy : Vw k F H S y oy) (e : bIn ox oy = some b) :
    (∀ Q : VK, Q (.bl b) H → rInU k.K x y H Q) ∧ (∀ Q : VK, Q (.bl (!b)) H → rNinU k.K x y H Q) := by
  unfold bIn at e
  split at e
  · have e' := Option.some.inj e
    subst e'
    exact ⟨fun Q h => .inr (.inr (.inl ⟨_, _, wx.str, wy.str, h⟩)), fun Q h => .inr (.inr (.inl ⟨_, _, wx.str, wy.str, h⟩))⟩
  · split at e
    · rename_i d ds e1 e2
      split at e
      · rename_i hz
        have hz := Bool.and_eq_true_iff.mp hz
        have e' := Option.some.inj e
        subst e'
        obtain ⟨a, vs, rfl, h1, h2⟩ := wy.seqL f e2
        have p1 := (wx.at_ f e1).dp (SeqAt.canLay_of_shaped hz.1)
        have p2 : Dp k.K H (.ref a) (.list ds) := (Rep.lst h1 (h2.le f)).dp (SeqAt.canLay_of_shaped hz.2)
        exact ⟨fun Q h => .inl ⟨d, ds, p1, p2, hz.1, hz.2, h⟩, fun Q h => .inl ⟨d, ds, p1, p2, hz.1, hz.2, h⟩⟩
      · cases e
    · rename_i d e1 e2
      split at e
      · rename_i ds e3
        split at e
        · rename_i hz
          have hz := Bool.and_eq_true_iff.mp hz
          have e' := Option.some.inj e
          subst e'
          obtain ⟨a, vs, rfl, h1, h2⟩ := wy.seqR f e3
          have p1 := (wx.at_ f e1).dp (SeqAt.canLay_of_shaped hz.1)
          have p2 : Dp k.K H (.ref a) (.tuple ds) := .tup h1 ((h2.le f).dp (by
            have := SeqAt.canLay_of_shaped hz.2
            simpa [PyData.canLay0] using this))
          exact ⟨fun Q h => .inr (.inl ⟨d, ds, p1, p2, hz.1, hz.2, h⟩), fun Q h => .inr (.inl ⟨d, ds, p1, p2, hz.1, hz.2, h⟩)⟩
        · cases e
      · split at e
        · rename_i r e4
          have e' := Option.some.inj e
          subst e'
          obtain ⟨a, z, rfl, g, q⟩ := look_ok wy wx f e4
          have ez : z.isSome = r.isSome := by
            rcases q with ⟨q1, q2⟩ | ⟨d', v, q1, q2, _⟩ <;> rw [q1, q2] <;> rfl
          exact ⟨fun Q h => .inr (.inr (.inr ⟨a, z, rfl, g, by rw [ez]; exact h⟩)), fun Q h => .inr (.inr (.inr ⟨a, z, rfl, g, by rw [ez]; exact h⟩))⟩
        · cases e
    · cases e
theorem ov_in {k : Kc} : OpV k (rInU k.K) oIn := by
  intro F H S x y ox oy o Q f off th wx wy e h
  obtain ⟨b, e1, e2⟩ := Option.map_eq_some_iff.mp e
  subst e2
  exact (bin_ok f wx wy e1).1 Q (h _ F H (Xt.refl f) (.fz (.bl _)))
theorem ov_nin {k : Kc} : OpV k (rNinU k.K) oNin := by
  intro F H S x y ox oy o Q f off th wx wy e h
  obtain ⟨b, e1, e2⟩ := Option.map_eq_some_iff.mp e
  subst e2
  exact (bin_ok f wx wy e1).2 Q (h _ F H (Xt.refl f) (.fz (.bl _)))
/-! ### slices -/
def rSlU (K : Frag) : V → Option Int → Option Int → Hp → VK → Prop := fun x lo hi H Q => rSlL K x lo hi H Q ∨ (rSlA K x lo hi H Q ∨ rSlS x lo hi H Q)
theorem sl_U : SlR X (rSlU X.K) := sl_list.or (sl_tupA.or sl_str)
def cut {α : Type} (xs : List α) (lo hi : Option Int) : List α := (xs.drop (HT.sIx xs.length 0 lo)).take (HT.sIx xs.length xs.length hi - HT.sIx xs.length 0 lo)
theorem Reps.cut {K : Frag} {F : Hp} {vs : List V} {ds : List PD} (r : Reps K F vs ds) (lo hi : Option Int) : Reps K F (cutV vs lo hi) (FM.cut ds lo hi) := by
  unfold cutV FM.cut
  rw [r.length]
  exact (r.drop _).take _
theorem cut_whole {α : Type} {xs : List α} {lo hi : Option Int} (h : HT.sIx xs.length 0 lo = 0 ∧ HT.sIx xs.length xs.length hi = xs.length) : FM.cut xs lo hi = xs := by
  unfold FM.cut
  rw [h.1, h.2]
  simp
def oSl (x : O) (lo hi : Option Int) : Option O := match seqL x with
  | some ds => some (.fz (.list (cut ds lo hi)))
  | none => match x with
    | .fz (.tuple ds) => some (.fz (.tuple (cut ds lo hi)))
    | .fz (.str z) => if z.length ≤ sizeLine then some (.fz (.str (cutS z lo hi))) else none
    | _ => none
def qSl (a : QE) (lo hi : List O → Option (Option Int)) : QE := fun ρ => match a ρ with
  | none => none
  | some x => match lo ρ with
    | none => none
    | some l => match hi ρ with
      | none => none
      | some u => oSl x l u
def qNo : List O → Option (Option Int) := fun _ => some none
def qPart (a : QE) : List O → Option (Option Int) := fun ρ => match a ρ with
  | some (.fz (.int i)) => some (some i)
  | _ => none
theorem tov_no {k : Kc} : TOv k tNoPart qNo := by
  intro F H σ ρ S b Q q e h
  have e' := Option.some.inj e
  subst e'
  exact h F H (Xt.refl q.fle)
theorem tov_part {k : Kc} {te : TE} {qa : QE} (ha : TEv k te qa) : TOv k (tPart te) (qPart qa) := by
  intro F H σ ρ S b Q q e h
  unfold qPart at e
  split at e
  · rename_i i e1
    have e' := Option.some.inj e
    subst e'
    exact ha F H σ ρ S _ _ q e1 fun v F1 H1 x1 w1 => ⟨i, w1.int, h F1 H1 x1⟩
  · cases e
theorem tev_sl {k : Kc} {te : TE} {tl th : TO} {qa : QE} {ql qh : List O → Option (Option Int)} (ha : TEv k te qa) (hl : TOv k tl ql) (hh : TOv k th qh) : TEv k (tSl (rSlU k.K) te tl th) (qSl qa ql qh) := by
  intro F H σ ρ S o Q q e h
  unfold qSl at e
  cases e1 : qa ρ with
  | none => rw [e1] at e; cases e
  | some x =>
    rw [e1] at e
    cases e2 : ql ρ with
    | none => simp only [e2] at e; cases e
    | some l =>
      simp only [e2] at e
      cases e3 : qh ρ with
      | none => simp only [e3] at e; cases e
      | some u =>
        simp only [e3] at e
        refine ha F H σ ρ S x _ q e1 fun v F1 H1 x1 w1 => ?_
        have q1 := q.xt x1
        refine hl F1 H1 σ ρ S l _ q1 e2 fun F2 H2 x2 => ?_
        have q2 := q1.xt x2
        refine hh F2 H2 σ ρ S u _ q2 e3 fun F3 H3 x3 => ?_
        have w3 := (w1.xt x2).xt x3
        have h3 : ∀ v F' H', Xt F3 H3 F' H' → Vw k F' H' S v o → Q v H' := fun v F' H' x w => h v F' H' (((x1.trans x2).trans x3).trans x) w
        unfold oSl at e
        split at e
        · rename_i ds es
          have e' := Option.some.inj e
          subst e'
          obtain ⟨a, vs, rfl, g1, g2⟩ := w3.seqL x3.fle es
          exact .inl ⟨a, vs, rfl, g1, new_list x3.fle (g2.cut l u) h3⟩
        · split at e
          · rename_i ds _
            have e' := Option.some.inj e
            subst e'
            obtain ⟨a, vs, rfl, g1, g2⟩ := w3.seqT x3.fle rfl
            refine .inr (.inl ⟨a, vs, rfl, SqT.of g1, fun z => ?_, fun _ => new_tuple x3.fle (g2.cut l u) h3⟩)
            rw [g2.length] at z
            rw [cut_whole z] at h3
            exact h3 _ F3 H3 (Xt.refl x3.fle) w3
          · split at e
            · rename_i hz
              have e' := Option.some.inj e
              subst e'
              exact .inr (.inr ⟨_, w3.str, hz, h3 _ F3 H3 (Xt.refl x3.fle) (.fz (.str _))⟩)
            · cases e
          · cases e
/-! ### len -/
def rLenU (K : Frag) : List V → Hp → VK → Prop := fun xs H Q => (∃ x n, xs = [x] ∧ LenV K x H n ∧ Q (.int n) H) ∨ ∃ a kvs, xs = [.ref a] ∧ Rd H a (.dK kvs) ∧ Q (.int (kvs.length : Int)) H
theorem call_lenU : CallR X (.builtin "len") (rLenU X.K) := by
  refine CallR.or call_len ?_
  intro pins s σ H xs us Q I r h
  obtain ⟨a, kvs, rfl, hd, q⟩ := h
  obtain ⟨u, rfl, ru⟩ := vals1 r
  cases ru
  exact d_len I hd fun t s' I' => ⟨.int _, H, I', ⟨t, rfl⟩, q⟩
def oLen1 (x : O) : Option O := match seqL x with
  | some ds => some (.fz (.int ds.length))
  | none => match seqR x with
    | some ds => some (.fz (.int ds.length))
    | none => match x with
      | .fz (.str z) => if z.length ≤ sizeLine then some (.fz (.int z.length)) else none
      | .nst os => some (.fz (.int os.length))
      | .ntp os => some (.fz (.int os.length))
      | x => match dicK x with
        | some ds => some (.fz (.int ds.length))
        | none => none
def oLen : List O → Option O
  | [x] => oLen1 x
  | _ => none
theorem RepK.length {K : Frag} {F : Hp} : ∀ {vs : List (Key × V)} {ds : List (Key × PD)}, RepK K F vs ds → vs.length = ds.length
  | _, _, .nil => rfl
  | _, _, .cons _ r => congrArg (· + 1) (RepK.length r)
theorem Owns.length {k : Kc} {F H : Hp} : ∀ {vs : List V} {os : List O} {S : List Addr}, Owns k F H vs os S → vs.length = os.length
  | _, _, _, .nil => rfl
  | _, _, _, .cons _ r => congrArg (· + 1) (Owns.length r)
theorem cb_len {k : Kc} : CbV k (rLenU k.K) oLen := by
  intro F H S xs os o Q f off th ws e h
  unfold oLen at e
  split at e
  · cases ws with
    | cons w ws =>
      cases ws
      have fin : ∀ {n : Nat}, o = .fz (.int n) → Q (.int (n : Int)) H := fun e' => by
        subst e'
        exact h _ F H (Xt.refl f) (.fz (.int _))
      unfold oLen1 at e
      split at e
      · rename_i ds es
        obtain ⟨a, vs, rfl, g1, g2⟩ := w.seqL f es
        exact .inl ⟨_, vs.length, rfl, .inl ⟨vs, g1, rfl⟩, fin (by rw [g2.length]; exact (Option.some.inj e).symm)⟩
      · split at e
        · rename_i ds es
          obtain ⟨a, vs, rfl, g1, g2⟩ := w.seqR f es
          exact .inl ⟨_, vs.length, rfl, .inr ⟨vs, g1, rfl⟩, fin (by rw [g2.length]; exact (Option.some.inj e).symm)⟩
        · split at e
          · split at e
            · rename_i hz
              have ew := w.str
              subst ew
              exact .inl ⟨_, _, rfl, ⟨hz, rfl⟩, fin (Option.some.inj e).symm⟩
            · cases e
          · obtain ⟨T, m, q⟩ := w
            cases q with
            | nst h1 h2 => exact .inl ⟨_, _, rfl, .inl ⟨_, .inl h1, rfl⟩, fin (by rw [h2.length]; exact (Option.some.inj e).symm)⟩
          · obtain ⟨T, m, q⟩ := w
            cases q with
            | ntp h1 hg2 h2 => exact .inl ⟨_, _, rfl, .inr ⟨_, SqT.of h1, rfl⟩, fin (by rw [h2.length]; exact (Option.some.inj e).symm)⟩
          · split at e
            · rename_i ds es
              obtain ⟨a, vs, rfl, g1, g2⟩ := w.dicK f es
              exact .inr ⟨a, vs, rfl, g1, fin (by rw [g2.length]; exact (Option.some.inj e).symm)⟩
            · cases e
  · cases e
/-! ### list(x), tuple(x) -/
def rListU (K : Frag) : List V → Hp → VK → Prop := fun xs H Q => ∃ p ys, xs = [.ref p] ∧ (SqL K H p ys ∨ SqT K H p ys) ∧ ∀ l, H l = none → Q (.ref l) (upd H l (.lst ys))
def oList : List O → Option O
  | [x] => match seqL x with
    | some ds => some (.lst ds)
    | none => match seqR x with
      | some ds => some (.lst ds)
      | none => none
  | _ => none
theorem cn_list {k : Kc} : CbN k (rListU k.K) oList := by
  intro F H S xs os o Q f off th ws e h
  unfold oList at e
  split at e
  · cases ws with
    | cons w ws =>
      cases ws
      split at e
      · rename_i ds es
        have e' := Option.some.inj e
        subst e'
        obtain ⟨a, vs, rfl, g1, g2⟩ := w.seqL f es
        exact ⟨a, vs, rfl, .inl g1, own_list f g2 h⟩
      · split at e
        · rename_i ds es
          have e' := Option.some.inj e
          subst e'
          obtain ⟨a, vs, rfl, g1, g2⟩ := w.seqR f es
          exact ⟨a, vs, rfl, .inr g1, own_list f g2 h⟩
        · cases e
  · cases e
def rTupU (K : Frag) : List V → Hp → VK → Prop := fun xs H Q => ∃ p ys, xs = [.ref p] ∧ ((SqL K H p ys ∧ ∀ l, H l = none → Q (.ref l) (upd H l (.tup ys))) ∨ (SqT K H p ys ∧ Q (.ref p) H))
def oTuple : List O → Option O
  | [x] => match seqL x with
    | some ds => some (.fz (.tuple ds))
    | none => match x with
      | .fz (.tuple ds) => some (.fz (.tuple ds))
      | _ => none
  | _ => none
theorem cb_tuple {k : Kc} : CbV k (rTupU k.K) oTuple := by
  intro F H S xs os o Q f off th ws e h
  unfold oTuple at e
  split at e
  · cases ws with
    | cons w ws =>
      cases ws
      split at e
      · rename_i ds es
        have e' := Option.some.inj e
        subst e'
        obtain ⟨a, vs, rfl, g1, g2⟩ := w.seqL f es
        exact ⟨a, vs, rfl, .inl ⟨g1, new_tuple f g2 h⟩⟩
      · split at e
        · have e' := Option.some.inj e
          subst e'
          obtain ⟨a, vs, rfl, g1, g2⟩ := w.seqT f rfl
          exact ⟨a, vs, rfl, .inr ⟨SqT.of g1, h _ F H (Xt.refl f) w⟩⟩
        · cases e
  · cases e
/-! ### small builtins -/
def oAbs : List O → Option O
  | [.fz (.int i)] => some (.fz (.int (if i < 0 then -i else i)))
  | _ => none
theorem cb_abs {k : Kc} : CbV k (fun xs H Q => ∃ i, xs = [.int i] ∧ Q (.int (if i < 0 then -i else i)) H) oAbs := by
  intro F H S xs os o Q f off th ws e h
  unfold oAbs at e
  split at e
  · have e' := Option.some.inj e
    subst e'
    cases ws with
    | cons w ws =>
      cases ws
      have ew := w.int
      subst ew
      exact ⟨_, rfl, h _ F H (Xt.refl f) (.fz (.int _))⟩
  · cases e
def oMax2 : List O → Option O
  | [.fz (.int i), .fz (.int j)] => some (.fz (.int (if j > i then j else i)))
  | _ => none
def oMin2 : List O → Option O
  | [.fz (.int i), .fz (.int j)] => some (.fz (.int (if j < i then j else i)))
  | _ => none
theorem cb_max2 {k : Kc} : CbV k (fun xs H Q => ∃ i j, xs = [.int i, .int j] ∧ Q (.int (if j > i then j else i)) H) oMax2 := by
  intro F H S xs os o Q f off th ws e h
  unfold oMax2 at e
  split at e
  · have e' := Option.some.inj e
    subst e'
    cases ws with
    | cons w ws =>
      cases ws with
      | cons w2 ws =>
        cases ws
        have ew := w.int
        have ew2 := w2.int
        subst ew ew2
        exact ⟨_, _, rfl, h _ F H (Xt.refl f) (.fz (.int _))⟩
  · cases e
theorem cb_min2 {k : Kc} : CbV k (fun xs H Q => ∃ i j, xs = [.int i, .int j] ∧ Q (.int (if j < i then j else i)) H) oMin2 := by
  intro F H S xs os o Q f off th ws e h
  unfold oMin2 at e
  split at e
  · have e' := Option.some.inj e
    subst e'
    cases ws with
    | cons w ws =>
      cases ws with
      | cons w2 ws =>
        cases ws
        have ew := w.int
        have ew2 := w2.int
        subst ew ew2
        exact ⟨_, _, rfl, h _ F H (Xt.refl f) (.fz (.int _))⟩
  · cases e
def oInt : List O → Option O
  | [.fz (.int i)] => some (.fz (.int i))
  | [.fz (.bool b)] => some (.fz (.int (if b then 1 else 0)))
  | [.fz (.str a)] => match PySem.intText? a with
    | some n => if a.length ≤ 640 then some (.fz (.int n)) else none
    | none => none
  | _ => none
def rIntU : List V → Hp → VK → Prop := fun xs H Q => ((∃ i, xs = [.int i] ∧ Q (.int i) H) ∨ ∃ k, xs = [.bl k] ∧ Q (.int (if k then 1 else 0)) H) ∨ ∃ a n, xs = [.str a] ∧ PySem.intText? a = some n ∧ a.length ≤ 640 ∧ Q (.int n) H
theorem call_intU : CallR X (.type "int") rIntU := CallR.or call_int1 call_int_str
theorem cb_int {k : Kc} : CbV k rIntU oInt := by
  intro F H S xs os o Q f off th ws e h
  unfold oInt at e
  split at e
  · have e' := Option.some.inj e
    subst e'
    cases ws with
    | cons w ws =>
      cases ws
      have ew := w.int
      subst ew
      exact .inl (.inl ⟨_, rfl, h _ F H (Xt.refl f) (.fz (.int _))⟩)
  · have e' := Option.some.inj e
    subst e'
    cases ws with
    | cons w ws =>
      cases ws
      have ew := w.bl
      subst ew
      exact .inl (.inr ⟨_, rfl, h _ F H (Xt.refl f) (.fz (.int _))⟩)
  · split at e
    · rename_i n en
      split at e
      · rename_i hz
        have e' := Option.some.inj e
        subst e'
        cases ws with
        | cons w ws =>
          cases ws
          have ew := w.str
          subst ew
          exact .inr ⟨_, n, rfl, en, hz, h _ F H (Xt.refl f) (.fz (.int _))⟩
      · cases e
    · cases e
  · cases e
/-! ### str(x) -/
def rStrU (K : Frag) : List V → Hp → VK → Prop := fun xs H Q => (∃ i, xs = [.int i] ∧ i.natAbs.log2 < 1920 ∧ Q (.str (toString i)) H) ∨ ((∃ a, xs = [.str a] ∧ Q (.str a) H) ∨
  ∃ a d, xs = [.ref a] ∧ Dp K H (.ref a) d ∧ SeqAt.shaped d = true ∧ d.showable = true ∧ d.hasDict = false ∧ d.shown.length ≤ sizeLine ∧ Q (.str d.shown) H)
theorem call_strU (hg : X.A.guards = some []) (hu : X.A.units + 68 < cLine) : CallR X (.type "str") (rStrU X.K) := by
  refine CallR.or call_str_int (CallR.or SkE.call_str_str ?_)
  intro pins s σ H xs us Q I r h
  obtain ⟨a, d, rfl, hd, sh, sw, nd, hz, q⟩ := h
  obtain ⟨u, rfl, ru⟩ := vals1 r
  obtain ⟨as, r1⟩ := Dp.reads I d _ u hd ru
  cases (show u = Value.ref a from ru)
  have hdp := SeqAt.depth_of_shaped sh
  refine str_of_reads r1 sw (fun z => by rw [nd] at z; cases z) hg (by omega) (fun b o e => e) (fun h' u' tk kp => ?_) hz
  exact ⟨.str d.shown, H, I.kept kp, ⟨u', rfl⟩, q⟩
def isSeqD : PD → Bool
  | .list _ => true
  | .tuple _ => true
  | _ => false
def oStr : List O → Option O
  | [.fz (.int i)] => if i.natAbs < 2 ^ 1900 then some (.fz (.str (toString i))) else none
  | [.fz (.str x)] => some (.fz (.str x))
  | [x] => match toPD x with
    | some d => if isSeqD d && SeqAt.shaped d && d.showable && !d.hasDict && decide (d.shown.length ≤ sizeLine) then some (.fz (.str d.shown)) else none
    | none => none
  | _ => none
theorem cb_str {k : Kc} : CbV k (rStrU k.K) oStr := by
  intro F H S xs os o Q f off th ws e h
  unfold oStr at e
  split at e
  · split at e
    · rename_i hz
      have e' := Option.some.inj e
      subst e'
      cases ws with
      | cons w ws =>
        cases ws
        have ew := w.int
        subst ew
        exact .inl ⟨_, rfl, PySem.Spec.log2_small (Nat.lt_of_lt_of_le hz (Nat.pow_le_pow_right (by decide) (by decide))), h _ F H (Xt.refl f) (.fz (.str _))⟩
    · cases e
  · have e' := Option.some.inj e
    subst e'
    cases ws with
    | cons w ws =>
      cases ws
      have ew := w.str
      subst ew
      exact .inr (.inl ⟨_, rfl, h _ F H (Xt.refl f) (.fz (.str _))⟩)
  · split at e
    · rename_i d ed
      split at e
      · rename_i hz
        simp only [Bool.and_eq_true, decide_eq_true_eq, Bool.not_eq_true'] at hz
        obtain ⟨⟨⟨⟨z1, z2⟩, z3⟩, z4⟩, z5⟩ := hz
        have e' := Option.some.inj e
        subst e'
        cases ws with
        | cons w ws =>
          cases ws
          have p := (w.at_ f ed).dp (SeqAt.canLay_of_shaped z2)
          cases p with
          | lst g1 g2 => exact .inr (.inr ⟨_, _, rfl, .lst g1 g2, z2, z3, z4, z5, h _ F H (Xt.refl f) (.fz (.str _))⟩)
          | tup g1 g2 => exact .inr (.inr ⟨_, _, rfl, .tup g1 g2, z2, z3, z4, z5, h _ F H (Xt.refl f) (.fz (.str _))⟩)
          | _ => cases z1
      · cases e
    · cases e
  · cases e
end
end FM
namespace FM
open PySem L2 PyProof.Rows
section
variable {X : Cx}
/-! ### displays -/
def fzs : List O → Option (List PD)
  | [] => some []
  | .fz d :: r => (fzs r).map fun z => d :: z
  | _ :: _ => none
theorem Vws.fzs {k : Kc} {F H : Hp} {S : List Addr} : ∀ {vs : List V} {os : List O} {ds : List PD}, Vws k F H S vs os → FM.fzs os = some ds → Reps k.K F vs ds
  | _, _, _, .nil, e => by
    have e' := Option.some.inj e
    subst e'
    exact .nil
  | _, _, _, .cons (o := o) (os := os) w ws, e => by
    cases o with
    | fz d =>
      obtain ⟨z, e1, e2⟩ := Option.map_eq_some_iff.mp (show (FM.fzs os).map (fun z => d :: z) = some _ from e)
      subst e2
      exact .cons w.rep (Vws.fzs ws e1)
    | _ => cases e
def qTup (r : List O → Option (List O)) : QE := fun ρ => match r ρ with
  | none => none
  | some os => match fzs os with
    | some ds => if ds.length ≤ sizeLine then some (.fz (.tuple ds)) else none
    | none => none
def qLst (r : List O → Option (List O)) : QE := fun ρ => match r ρ with
  | none => none
  | some os => match fzs os with
    | some ds => if ds.length ≤ sizeLine then some (.lst ds) else none
    | none => none
theorem tev_tup {k : Kc} {ta : TA} {qs : List O → Option (List O)} (ha : TAv k ta qs) : TEv k (tTup ta) (qTup qs) := by
  intro F H σ ρ S o Q q e h
  unfold qTup at e
  cases e1 : qs ρ with
  | none => rw [e1] at e; cases e
  | some os =>
    rw [e1] at e
    cases e2 : fzs os with
    | none => simp only [e2] at e; cases e
    | some ds =>
      simp only [e2] at e
      split at e
      · rename_i hz
        have e' := Option.some.inj e
        subst e'
        refine ha F H σ ρ S os _ q e1 fun vs F1 H1 x1 w1 => ?_
        have r := w1.fzs e2
        exact ⟨by rw [r.length]; exact hz, new_tuple x1.fle r fun v F' H' x w => h v F' H' (x1.trans x) w⟩
      · cases e
theorem ten_lst {k : Kc} {ta : TA} {qs : List O → Option (List O)} (ha : TAv k ta qs) : TEn k (tLst ta) (qLst qs) := by
  intro F H σ ρ S o Q q e h
  unfold qLst at e
  cases e1 : qs ρ with
  | none => rw [e1] at e; cases e
  | some os =>
    rw [e1] at e
    cases e2 : fzs os with
    | none => simp only [e2] at e; cases e
    | some ds =>
      simp only [e2] at e
      split at e
      · rename_i hz
        have e' := Option.some.inj e
        subst e'
        refine ha F H σ ρ S os _ q e1 fun vs F1 H1 x1 w1 => ?_
        have r := w1.fzs e2
        exact ⟨by rw [r.length]; exact hz, own_list x1.fle r fun v F' H' T x w fr => h v F' H' T (x1.trans x) w ⟨fr.nd, fun a m => none_back x1.ex (fr.new a m), fr.off, fr.nofz⟩⟩
      · cases e
/-! ### isinstance -/
def tyS : PD → String
  | .none => "NoneType"
  | .bool _ => "bool"
  | .int _ => "int"
  | .str _ => "str"
  | .list _ => "list"
  | .tuple _ => "tuple"
  | .dict _ => "dict"
def isTy (n : String) (d : PD) : Option Bool := kitB (tyS d) n
theorem kit_rep {K : Frag} {pins : List (Addr × Obj)} {σ : L2.St} {H : Hp} {s : Shared} {x : V} {u : Value} {d : PD} (hK : X.K = K) (I : Inv X pins σ H s) (rx : RelV x u) (r : Rep K H x d) :
    ∃ P : Heap → Prop, PySem.W.KitX X.K u (.type (tyS d)) P ∧ P s.heap ∧ u ≠ .builtin "__main__.__loader__#opaque" := by
  subst hK
  cases r with
  | non => exact kit_of I rx (.base .non)
  | bl b => exact kit_of I rx (.base (.bl b))
  | int i => exact kit_of I rx (.base (.int i))
  | str y => exact kit_of I rx (.base (.str y))
  | lst h _ =>
    rcases h with (h | ⟨o, h⟩) | ⟨o, its, n, hk, hc, _⟩
    · exact kit_of I rx (.base (.lst h))
    · exact kit_of I rx (.base (.frz h))
    · exact kit_of I rx (.kList hk hc)
  | tup h _ => exact kit_of I rx (.base (.tup h))
  | dic h _ e =>
    subst e
    rcases h with h | ⟨o, h⟩
    · exact kit_of I rx (.base (.dK h))
    · exact kit_of I rx (.fDict h)
  | @dit a kvs ds _ h _ e =>
    subst e
    rcases h with h | ⟨ob, h⟩
    · exact kit_of I rx (.base (.dT h))
    · cases (show u = Value.ref a from rx)
      obtain ⟨_, _, _, xs, _, o, es, ep, h1, h2, _⟩ := (show ObjOk X.prog X.w H s.heap a (.frz ob (.dT kvs)) from I.hok a _ h)
      exact ⟨_, PySem.W.kitx_dict, ⟨o, h1, h2.1⟩, fun z => nomatch z⟩
def rIsi1 (K : Frag) : List V → Hp → VK → Prop := fun xs H Q => ∃ x n d b, xs = [x, .ty n] ∧ Rep K H x d ∧ kitB (tyS d) n = some b ∧ Q (.bl b) H
theorem call_isi1 : CallR X (.builtin "isinstance") (rIsi1 X.K) := by
  intro pins s σ H xs us Q I r h
  obtain ⟨x, n, d, b, rfl, rx, e, q⟩ := h
  obtain ⟨u1, u2, rfl, r1, r2⟩ := vals2 r
  cases (show u2 = Value.type n from r2)
  obtain ⟨P, Z, p, hx⟩ := kit_rep rfl I r1 rx
  exact PySem.W.kia_one Z I.kIn p (kit_ty e) hx fun tk => ⟨.bl b, H, I.tok tk, rfl, q⟩
def rIsi2 (K : Frag) : List V → Hp → VK → Prop := fun xs H Q => ∃ x tp n m d b c, xs = [x, .ref tp] ∧ H tp = some (.tup [.ty n, .ty m]) ∧ Rep K H x d ∧ kitB (tyS d) n = some b ∧ kitB (tyS d) m = some c ∧ Q (.bl (b || c)) H
theorem call_isi2 : CallR X (.builtin "isinstance") (rIsi2 X.K) := by
  intro pins s σ H xs us Q I r h
  obtain ⟨x, tp, n, m, d, b, c, rfl, hT, rx, e, e2, q⟩ := h
  obtain ⟨u1, u2, rfl, r1, r2⟩ := vals2 r
  cases (show u2 = Value.ref tp from r2)
  obtain ⟨P, Z, p, hx⟩ := kit_rep rfl I r1 rx
  obtain ⟨_, its, rv, o, h1, h2, n', h3⟩ := (show ObjOk X.prog X.w H s.heap tp (.tup [.ty n, .ty m]) from I.hok tp _ hT)
  have e3 : its = [Value.type n, Value.type m] := by
    cases rv with
    | cons a t =>
      cases t with
      | cons b t =>
        cases t
        cases a
        cases b
        rfl
  subst e3
  obtain ⟨oc, od, dt, sl⟩ := o
  simp only at h2 h3
  subst h2 h3
  refine PySem.W.kia_tup Z I.kIn p h1 (kitAny_cons (r := b || c) (kit_ty e) (fun hb => ?_) fun hb => by rw [hb]; rfl) hx fun tk => ⟨.bl _, H, I.tok tk, rfl, q⟩
  rw [hb]
  refine kitAny_cons (kit_ty e2) (fun hc => ?_) fun hc => by rw [hc]; rfl
  rw [hc]
  exact kitAny_nil
def qIsi (n : String) (a : QE) : QE := fun ρ => match a ρ with
  | none => none
  | some x => match toPD x with
    | none => none
    | some d => (isTy n d).map fun b => .fz (.bool b)
def qIsi2 (n m : String) (a : QE) : QE := fun ρ => match a ρ with
  | none => none
  | some x => match toPD x with
    | none => none
    | some d => match isTy n d, isTy m d with
      | some b, some c => some (.fz (.bool (b || c)))
      | _, _ => none
theorem tev_isi {k : Kc} {te : TE} {qa : QE} {n : String} (ha : TEv k te qa) : TEv k (tCB (rIsi1 k.K) (tCons te (tCons (tC (.ty n)) tNil))) (qIsi n qa) := by
  intro F H σ ρ S o Q q e h
  unfold qIsi at e
  cases e1 : qa ρ with
  | none => rw [e1] at e; cases e
  | some x =>
    rw [e1] at e
    cases e2 : toPD x with
    | none => simp only [e2] at e; cases e
    | some d =>
      simp only [e2] at e
      obtain ⟨b, e3, e4⟩ := Option.map_eq_some_iff.mp e
      subst e4
      refine ha F H σ ρ S x _ q e1 fun v F1 H1 x1 w1 => ?_
      exact ⟨v, n, d, b, rfl, w1.at_ x1.fle e2, e3, h _ F1 H1 x1 (.fz (.bl _))⟩
theorem tev_isi2 {k : Kc} {te : TE} {qa : QE} {n m : String} (ha : TEv k te qa) : TEv k (tCB (rIsi2 k.K) (tCons te (tCons (tTup (tCons (tC (.ty n)) (tCons (tC (.ty m)) tNil))) tNil))) (qIsi2 n m qa) := by
  intro F H σ ρ S o Q q e h
  unfold qIsi2 at e
  cases e1 : qa ρ with
  | none => rw [e1] at e; cases e
  | some x =>
    rw [e1] at e
    cases e2 : toPD x with
    | none => simp only [e2] at e; cases e
    | some d =>
      simp only [e2] at e
      split at e
      · rename_i b c e3 e4
        have e' := Option.some.inj e
        subst e'
        refine ha F H σ ρ S x _ q e1 fun v F1 H1 x1 w1 => ?_
        refine ⟨by show 2 ≤ sizeLine; decide, fun p hp => ?_⟩
        have x2 := Xt.new (o := .tup [.ty n, .ty m]) x1.fle hp
        exact ⟨v, p, n, m, d, b, c, rfl, upd_same, (w1.xt x2).at_ x2.fle e2, e3, e4, h _ _ _ (x1.trans x2) (.fz (.bl _))⟩
      · cases e
/-! ### what is walked -/
/-- the items, each new one frozen: P says where it holds -/
structure WalkD (k : Kc) (P : Hp → Hp → Prop) (J : It) (ds : List PD) : Prop where
  goes : ∀ i F H, i < ds.length → P F H → FLe F H → J.go i H
  stops : ∀ F H, P F H → FLe F H → J.stop ds.length H
  yields : ∀ i F H x H' (hi : i < ds.length), P F H → FLe F H → J.yld i H x H' → ∃ F', Xt F H F' H' ∧ Rep k.K F' x ds[i]
abbrev QI := List O → Option (List PD)
/-- as long as nothing is changed -/
def TIv (k : Kc) (wi : TI) (q : QI) : Prop := ∀ (F H : Hp) (σ : L2.St) (ρ : List O) (S : List Addr) (ds : List PD) (R : It → Hp → Prop), Qs k F H σ ρ S → q ρ = some ds →
  (∀ J F' H', Xt F H F' H' → WalkD k (fun F2 H2 => Xt F' H' F2 H2) J ds → R J H') → wi σ H R
/-- as long as what is frozen stands -/
def TIf (k : Kc) (wi : TI) (q : QI) : Prop := ∀ (F H : Hp) (σ : L2.St) (ρ : List O) (S : List Addr) (ds : List PD) (R : It → Hp → Prop), Qs k F H σ ρ S → q ρ = some ds →
  (∀ J F' H', Xt F H F' H' → WalkD k (fun F2 _ => Same F' F2) J ds → R J H') → wi σ H R
theorem WalkD.mono {k : Kc} {P P' : Hp → Hp → Prop} {J : It} {ds : List PD} (w : WalkD k P J ds) (h : ∀ F H, P' F H → P F H) : WalkD k P' J ds :=
  ⟨fun i F H hi p f => w.goes i F H hi (h F H p) f, fun F H p f => w.stops F H (h F H p) f, fun i F H x H' hi p f y => w.yields i F H x H' hi (h F H p) f y⟩
theorem TIf.v {k : Kc} {wi : TI} {q : QI} (h : TIf k wi q) : TIv k wi q := fun F H σ ρ S ds R qs e g => h F H σ ρ S ds R qs e fun J F' H' x w => g J F' H' x (w.mono fun _ _ z => z.sub)
/-- over what P holds: SqL, SqT along P -/
theorem walkD_list {k : Kc} {P : Hp → Hp → Prop} {a : Addr} {vs : List V} {ds : List PD} (hs : ∀ F H, P F H → FLe F H → SqL k.K H a vs ∧ Reps k.K F vs ds) (hl : vs.length = ds.length) : WalkD k P (Itl k.K a) ds :=
  ⟨fun i F H hi p f => walk_list.goes i H (by omega) (hs F H p f).1, fun F H p f => by rw [← hl]; exact walk_list.stops H (hs F H p f).1, fun i F H x H' hi p f y => by
    obtain ⟨e1, e2⟩ := walk_list.yields i H x H' (by omega) (hs F H p f).1 y
    subst e1
    obtain ⟨v, e3, r⟩ := (hs F _ p f).2.get (i := i) (d := ds[i]) (by simp [hi])
    rw [e2] at e3
    have e3 := Option.some.inj e3
    subst e3
    exact ⟨F, Xt.refl f, r⟩⟩
theorem walkD_tup {k : Kc} {P : Hp → Hp → Prop} {a : Addr} {vs : List V} {ds : List PD} (hs : ∀ F H, P F H → FLe F H → SqT k.K H a vs ∧ Reps k.K F vs ds) (hl : vs.length = ds.length) : WalkD k P (Itt k.K a) ds :=
  ⟨fun i F H hi p f => walk_tup.goes i H (by omega) (hs F H p f).1, fun F H p f => by rw [← hl]; exact walk_tup.stops H (hs F H p f).1, fun i F H x H' hi p f y => by
    obtain ⟨e1, e2⟩ := walk_tup.yields i H x H' (by omega) (hs F H p f).1 y
    subst e1
    obtain ⟨v, e3, r⟩ := (hs F _ p f).2.get (i := i) (d := ds[i]) (by simp [hi])
    rw [e2] at e3
    have e3 := Option.some.inj e3
    subst e3
    exact ⟨F, Xt.refl f, r⟩⟩
/-- a frozen list's standing -/
def qItL (a : QE) : QI := fun ρ => match a ρ with
  | none => none
  | some x => seqL x
def qItT (a : QE) : QI := fun ρ => match a ρ with
  | none => none
  | some x => seqR x
theorem tiv_list {k : Kc} {te : TE} {qa : QE} (ha : TEv k te qa) : TIv k (iList k.K te) (qItL qa) := by
  intro F H σ ρ S ds R q e g
  unfold qItL at e
  cases e1 : qa ρ with
  | none => rw [e1] at e; cases e
  | some x =>
    rw [e1] at e
    refine ha F H σ ρ S x _ q e1 fun v F1 H1 x1 w1 => ?_
    obtain ⟨a, vs, rfl, g1, g2⟩ := w1.seqL x1.fle e
    exact ⟨a, rfl, ⟨vs, g1⟩, g _ F1 H1 x1 (walkD_list (fun F2 H2 p f => ⟨sqL_sub p.ex g1, g2.sub p.sub⟩) g2.length)⟩
theorem tiv_tup {k : Kc} {te : TE} {qa : QE} (ha : TEv k te qa) : TIv k (iTup k.K te) (qItT qa) := by
  intro F H σ ρ S ds R q e g
  unfold qItT at e
  cases e1 : qa ρ with
  | none => rw [e1] at e; cases e
  | some x =>
    rw [e1] at e
    refine ha F H σ ρ S x _ q e1 fun v F1 H1 x1 w1 => ?_
    obtain ⟨a, vs, rfl, g1, g2⟩ := w1.seqR x1.fle e
    exact ⟨a, rfl, ⟨vs, g1⟩, g _ F1 H1 x1 (walkD_tup (fun F2 H2 p f => ⟨sqT_sub p.ex g1, g2.sub p.sub⟩) g2.length)⟩
/-- frozen ones alone -/
def fzL : O → Option (List PD)
  | .fz (.list ds) => some ds
  | _ => none
theorem Vw.fzL {k : Kc} {F H : Hp} {S : List Addr} {v : V} {o : O} {ds : List PD} (h : Vw k F H S v o) (e : FM.fzL o = some ds) : ∃ a vs, v = .ref a ∧ SqL k.K F a vs ∧ Reps k.K F vs ds := by
  unfold FM.fzL at e
  split at e
  · have e' := Option.some.inj e
    subst e'
    cases h.rep with
    | lst h1 h2 => exact ⟨_, _, rfl, h1, h2⟩
    | dic _ _ e => cases e
    | dit _ _ e => cases e
  · cases e
theorem Vw.fzR {k : Kc} {F H : Hp} {S : List Addr} {v : V} {o : O} {ds : List PD} (h : Vw k F H S v o) (e : FM.seqR o = some ds) : ∃ a vs, v = .ref a ∧ (∀ G, Same F G → SqT k.K G a vs) ∧ Reps k.K F vs ds := by
  obtain ⟨T, _, q⟩ := h
  cases q with
  | fz r =>
    cases r with
    | tup h1 h2 =>
      have e' := Option.some.inj e
      subst e'
      exact ⟨_, _, rfl, fun G s => SqT.of (s _ _ h1), h2⟩
    | dic h1 h2 h3 => subst h3; cases e
    | dit h1 h2 h3 => subst h3; cases e
    | _ => cases e
  | ktp h1 h2 =>
    have e' := Option.some.inj e
    subst e'
    exact ⟨_, _, rfl, fun G _ => h1 G, h2⟩
  | _ => cases e
def qIfL (a : QE) : QI := fun ρ => match a ρ with
  | none => none
  | some x => fzL x
theorem tif_list {k : Kc} {te : TE} {qa : QE} (ha : TEv k te qa) : TIf k (iList k.K te) (qIfL qa) := by
  intro F H σ ρ S ds R q e g
  unfold qIfL at e
  cases e1 : qa ρ with
  | none => rw [e1] at e; cases e
  | some x =>
    rw [e1] at e
    refine ha F H σ ρ S x _ q e1 fun v F1 H1 x1 w1 => ?_
    obtain ⟨a, vs, rfl, g1, g2⟩ := w1.fzL e
    exact ⟨a, rfl, ⟨vs, sqL_le x1.fle g1⟩, g _ F1 H1 x1 (walkD_list (fun F2 H2 p f => ⟨sqL_le f (sqL_sub p g1), g2.sub p⟩) g2.length)⟩
theorem tif_tup {k : Kc} {te : TE} {qa : QE} (ha : TEv k te qa) : TIf k (iTup k.K te) (qItT qa) := by
  intro F H σ ρ S ds R q e g
  unfold qItT at e
  cases e1 : qa ρ with
  | none => rw [e1] at e; cases e
  | some x =>
    rw [e1] at e
    refine ha F H σ ρ S x _ q e1 fun v F1 H1 x1 w1 => ?_
    obtain ⟨a, vs, rfl, g1, g2⟩ := w1.fzR e
    exact ⟨a, rfl, ⟨vs, sqT_le x1.fle (g1 F1 (Same.refl _))⟩, g _ F1 H1 x1 (walkD_tup (fun F2 H2 p f => ⟨sqT_le f (g1 F2 p), g2.sub p⟩) g2.length)⟩
/-- ranges -/
def rngD (lo : Int) (n : Nat) : List PD := (List.range n).map fun i => PyData.int (lo + (i : Nat))
theorem walkD_range {k : Kc} {P : Hp → Hp → Prop} {lo : Int} {n : Nat} : WalkD k P (Itr lo n) (rngD lo n) := by
  have hl : (rngD lo n).length = n := by unfold rngD; rw [List.length_map, List.length_range]
  refine ⟨fun i F H hi _ _ => ?_, fun F H _ _ => ?_, fun i F H x H' hi p f y => ?_⟩
  · rw [hl] at hi; exact hi
  · rw [hl]; exact Nat.le_refl n
  · obtain ⟨e1, e2⟩ := y
    subst e1 e2
    refine ⟨F, Xt.refl f, ?_⟩
    have : (rngD lo n)[i] = PyData.int (lo + (i : Nat)) := by simp [rngD]
    rw [this]
    exact .int _
noncomputable def big62 (i : Int) : Bool := @decide (-(2 ^ 62) ≤ i ∧ i < 2 ^ 62) (Classical.propDecidable _)
theorem big62_ok {i : Int} (h : big62 i = true) : -(2 ^ 62) ≤ i ∧ i < 2 ^ 62 := @of_decide_eq_true _ (Classical.propDecidable _) h
theorem big62_of {i : Int} (h1 : -(2 ^ 62) ≤ i) (h2 : i < 2 ^ 62) : big62 i = true := @decide_eq_true _ (Classical.propDecidable _) ⟨h1, h2⟩
noncomputable def qRng1 (r : List O → Option (List O)) : QI := fun ρ => match r ρ with
  | some [.fz (.int j)] => if big62 j then some (rngD 0 j.toNat) else none
  | _ => none
noncomputable def qRng2 (r : List O → Option (List O)) : QI := fun ρ => match r ρ with
  | some [.fz (.int i), .fz (.int j)] => if big62 i && big62 j then some (rngD i (j - i).toNat) else none
  | _ => none
theorem tif_rng1 {k : Kc} {ta : TA} {qs : List O → Option (List O)} (ha : TAv k ta qs) : TIf k (iRng1 ta) (qRng1 qs) := by
  intro F H σ ρ S ds R q e g
  unfold qRng1 at e
  split at e
  · rename_i j e1
    split at e
    · rename_i hz
      have e' := Option.some.inj e
      subst e'
      refine ha F H σ ρ S _ _ q e1 fun vs F1 H1 x1 w1 => ?_
      cases w1 with
      | cons w ws =>
        cases ws
        have ew := w.int
        subst ew
        have b := big62_ok hz
        exact ⟨j, rfl, b.1, b.2, g _ F1 H1 x1 walkD_range⟩
    · cases e
  · cases e
theorem tif_rng2 {k : Kc} {ta : TA} {qs : List O → Option (List O)} (ha : TAv k ta qs) : TIf k (iRng2 ta) (qRng2 qs) := by
  intro F H σ ρ S ds R q e g
  unfold qRng2 at e
  split at e
  · rename_i i j e1
    split at e
    · rename_i hz
      have hz := Bool.and_eq_true_iff.mp hz
      have e' := Option.some.inj e
      subst e'
      refine ha F H σ ρ S _ _ q e1 fun vs F1 H1 x1 w1 => ?_
      cases w1 with
      | cons w ws =>
        cases ws with
        | cons w2 ws =>
          cases ws
          have ew := w.int
          have ew2 := w2.int
          subst ew ew2
          have b := big62_ok hz.1
          have b2 := big62_ok hz.2
          exact ⟨i, j, rfl, ⟨b.1, b.2, b2.1, b2.2⟩, g _ F1 H1 x1 walkD_range⟩
    · cases e
  · cases e
/-! ### list(range(..)) -/
noncomputable def qLrg1 (a : QE) : QE := fun ρ => match a ρ with
  | some (.fz (.int n)) => if big62 n && decide (n.toNat ≤ 2 ^ 24) then some (.lst (rngD 0 n.toNat)) else none
  | _ => none
noncomputable def qLrg2 (a b : QE) : QE := fun ρ => match a ρ, b ρ with
  | some (.fz (.int m)), some (.fz (.int n)) => if big62 m && big62 n && decide ((n - m).toNat ≤ 2 ^ 24) then some (.lst (rngD m (n - m).toNat)) else none
  | _, _ => none
theorem reps_rg {K : Frag} {F : Hp} (a b : Int) : Reps K F (rgV a b) (rngD a (b - a).toNat) := by
  unfold rgV rngD
  generalize List.range (b - a).toNat = l
  induction l with
  | nil => exact .nil
  | cons x r ih => exact .cons (.int _) ih
theorem ten_lrg1 {k : Kc} {te : TE} {qa : QE} (ha : TEv k te qa) : TEn k (tLstRg (tRg1 te)) (qLrg1 qa) := by
  intro F H σ ρ S o Q q e h
  unfold qLrg1 at e
  split at e
  · rename_i n e1
    split at e
    · rename_i hz
      simp only [Bool.and_eq_true, decide_eq_true_eq] at hz
      have e' := Option.some.inj e
      subst e'
      refine ha F H σ ρ S _ _ q e1 fun v F1 H1 x1 w1 => ?_
      have b := big62_ok hz.1
      refine ⟨n, w1.int, ⟨by decide, by decide, b.1, b.2, by rw [Int.sub_zero]; exact hz.2⟩, ?_⟩
      have r := reps_rg (K := k.K) (F := F1) 0 n
      rw [Int.sub_zero] at r
      exact own_list x1.fle r fun v F' H' T x w fr => h v F' H' T (x1.trans x) w ⟨fr.nd, fun a m => none_back x1.ex (fr.new a m), fr.off, fr.nofz⟩
    · cases e
  · cases e
theorem ten_lrg2 {k : Kc} {ta tb : TE} {qa qb : QE} (ha : TEv k ta qa) (hb : TEv k tb qb) : TEn k (tLstRg (tRg2 ta tb)) (qLrg2 qa qb) := by
  intro F H σ ρ S o Q q e h
  unfold qLrg2 at e
  split at e
  · rename_i m n e1 e2
    split at e
    · rename_i hz
      simp only [Bool.and_eq_true, decide_eq_true_eq] at hz
      have e' := Option.some.inj e
      subst e'
      refine ha F H σ ρ S _ _ q e1 fun v F1 H1 x1 w1 => ?_
      refine hb F1 H1 σ ρ S _ _ (q.xt x1) e2 fun v2 F2 H2 x2 w2 => ?_
      have b := big62_ok hz.1.1
      have b2 := big62_ok hz.1.2
      refine ⟨m, n, w1.int, w2.int, ⟨b.1, b.2, b2.1, b2.2, hz.2⟩, ?_⟩
      exact own_list x2.fle (reps_rg (K := k.K) (F := F2) m n) fun v F' H' T x w fr => h v F' H' T ((x1.trans x2).trans x) w ⟨fr.nd, fun a m => none_back (x1.trans x2).ex (fr.new a m), fr.off, fr.nofz⟩
    · cases e
  · cases e
end
end FM
namespace FM
open PySem L2 PyProof.Rows
/-! ### slots that are stored -/
theorem Envs.setD {k : Kc} {F H : Hp} {v : Option V} : ∀ {σ : L2.St} {ρ : List O} {S : List Addr} (j : Nat), Envs k F H σ ρ S → ∃ S', S'.Sublist S ∧ Envs k F H (σ.set j v) (ρ.set j .dead) S'
  | _, _, _, _, .nil => ⟨[], .slnil, .nil⟩
  | _, _, _, 0, .dead r => ⟨_, .refl _, .dead r⟩
  | _, _, _, 0, .cons h r => ⟨_, List.sublist_append_right _ _, .dead r⟩
  | _, _, _, j + 1, .dead r => by
    obtain ⟨S', m, q⟩ := Envs.setD j r
    exact ⟨S', m, .dead q⟩
  | _, _, _, j + 1, .cons (S := S1) h r => by
    obtain ⟨S', m, q⟩ := Envs.setD j r
    exact ⟨S1 ++ S', List.Sublist.append (.refl _) m, .cons h q⟩
theorem Envs.setO {k : Kc} {F H : Hp} {v : V} {o : O} {T : List Addr} (w : Own k F H v o T) : ∀ {σ : L2.St} {ρ : List O} {S : List Addr} (j : Nat), Envs k F H σ ρ S → (∃ S', S'.Sublist S ∧ ∃ U, U.Perm (T ++ S') ∧ Envs k F H (σ.set j (some v)) (ρ.set j o) U) ∨ ∃ S', S'.Sublist S ∧ Envs k F H (σ.set j (some v)) (ρ.set j o) S'
  | _, _, _, _, .nil => .inr ⟨[], .slnil, .nil⟩
  | _, _, S, 0, .dead r => .inl ⟨S, .refl _, T ++ S, .refl _, .cons w r⟩
  | _, _, _, 0, .cons (T := S2) h r => .inl ⟨S2, List.sublist_append_right _ _, T ++ S2, .refl _, .cons w r⟩
  | _, _, _, j + 1, .dead r => by
    rcases Envs.setO w j r with ⟨S', m, U, p, q⟩ | ⟨S2, m, q⟩
    · exact .inl ⟨S', m, U, p, .dead q⟩
    · exact .inr ⟨S2, m, .dead q⟩
  | _, _, _, j + 1, .cons (S := S1) h r => by
    rcases Envs.setO w j r with ⟨S', m, U, p, q⟩ | ⟨S2, m, q⟩
    · refine .inl ⟨S1 ++ S', List.Sublist.append (.refl _) m, S1 ++ U, ?_, .cons h q⟩
      exact (List.Perm.append_left S1 p).trans (by
        rw [← List.append_assoc, ← List.append_assoc]
        exact List.Perm.append_right _ List.perm_append_comm)
    · exact .inr ⟨S1 ++ S2, List.Sublist.append (.refl _) m, .cons h q⟩
theorem Envs.setR {k : Kc} {F H : Hp} {v : V} {d : PD} (w : Rep k.K F v d) : ∀ {σ : L2.St} {ρ : List O} {S : List Addr} (j : Nat), Envs k F H σ ρ S → ∃ S', S'.Sublist S ∧ Envs k F H (σ.set j (some v)) (ρ.set j (.fz d)) S'
  | _, _, _, _, .nil => ⟨[], .slnil, .nil⟩
  | _, _, S, 0, .dead r => ⟨[] ++ S, .refl _, .cons (.fz w) r⟩
  | _, _, _, 0, .cons (T := S2) h r => ⟨[] ++ S2, List.sublist_append_right _ _, .cons (.fz w) r⟩
  | _, _, _, j + 1, .dead r => by
    obtain ⟨S', m, q⟩ := Envs.setR w j r
    exact ⟨S', m, .dead q⟩
  | _, _, _, j + 1, .cons (S := S1) h r => by
    obtain ⟨S', m, q⟩ := Envs.setR w j r
    exact ⟨S1 ++ S', List.Sublist.append (.refl _) m, .cons h q⟩
def wipeO (ρ : List O) : List Nat → List O
  | [] => ρ
  | v :: vs => (wipeO ρ vs).set v .dead
theorem Envs.wipe {k : Kc} {F H : Hp} {σ : L2.St} {ρ : List O} {S : List Addr} (h : Envs k F H σ ρ S) : ∀ vs : List Nat, ∃ S', (∀ a ∈ S', a ∈ S) ∧ Envs k F H (L2.wipe σ vs) (wipeO ρ vs) S'
  | [] => ⟨S, fun _ m => m, h⟩
  | v :: vs => by
    obtain ⟨S1, m1, h1⟩ := Envs.wipe h vs
    obtain ⟨S2, m2, h2⟩ := Envs.setD (v := none) v h1
    exact ⟨S2, fun a z => m1 a (m2.subset z), h2⟩
theorem wipe_set {σ : L2.St} {j : Nat} {x : Option V} : ∀ {vs : List Nat}, j ∈ vs → L2.wipe (σ.set j x) vs = L2.wipe σ vs
  | [], m => by cases m
  | v :: vs, m => by
    unfold L2.wipe
    by_cases e : j ∈ vs
    · rw [wipe_set e]
    · have ej : j = v := (List.mem_cons.mp m).resolve_right e
      subst ej
      have comm : ∀ vs : List Nat, j ∉ vs → L2.wipe (σ.set j x) vs = (L2.wipe σ vs).set j x := by
        intro vs
        induction vs with
        | nil => intro _; rfl
        | cons w ws ih =>
          intro hn
          have h1 : j ≠ w := fun z => hn (by rw [z]; exact List.mem_cons_self)
          have h2 : j ∉ ws := fun z => hn (List.mem_cons_of_mem _ z)
          unfold L2.wipe
          rw [ih h2, List.set_comm _ _ h1]
      rw [comm vs e, List.set_set]
theorem wipe_wipe {σ : L2.St} : ∀ (vs ws : List Nat), (∀ j ∈ vs, j ∈ ws) → L2.wipe (L2.wipe σ vs) ws = L2.wipe σ ws
  | [], _, _ => rfl
  | v :: vs, ws, m => by
    show L2.wipe ((L2.wipe σ vs).set v none) ws = _
    rw [wipe_set (m v List.mem_cons_self)]
    exact wipe_wipe vs ws fun j z => m j (List.mem_cons_of_mem _ z)

/-- two slot lists that agree but at J -/
structure Agr (J : List Nat) (σ σ' : L2.St) : Prop where
  len : σ'.length = σ.length
  at_ : ∀ i, i ∉ J → σ'[i]? = σ[i]?
theorem Agr.refl {J : List Nat} {σ : L2.St} : Agr J σ σ := ⟨rfl, fun _ _ => rfl⟩
theorem Agr.trans {J J' : List Nat} {σ σ1 σ2 : L2.St} (a : Agr J σ σ1) (b : Agr J' σ1 σ2) : Agr (J ++ J') σ σ2 :=
  ⟨b.len.trans a.len, fun i n => (b.at_ i fun m => n (List.mem_append_right _ m)).trans (a.at_ i fun m => n (List.mem_append_left _ m))⟩
theorem Agr.set {σ : L2.St} {j : Nat} {x : Option V} : Agr [j] σ (σ.set j x) := ⟨List.length_set, fun i n => by
  rw [List.getElem?_set_ne]
  intro e
  exact n (by rw [e]; exact List.mem_cons_self)⟩
theorem wipe_in {σ : L2.St} {i : Nat} : ∀ {vs : List Nat}, i ∈ vs → i < σ.length → (L2.wipe σ vs)[i]? = some none
  | [], m, _ => by cases m
  | v :: vs, m, h => by
    unfold L2.wipe
    by_cases e : v = i
    · subst e
      rw [List.getElem?_set_self (by rw [wipe_length]; exact h)]
    · rw [List.getElem?_set_ne e]
      exact wipe_in ((List.mem_cons.mp m).resolve_left fun z => e z.symm) h
theorem Agr.wipe {J vs : List Nat} {σ σ' : L2.St} (a : Agr J σ σ') (h : ∀ j ∈ J, j ∈ vs) : L2.wipe σ' vs = L2.wipe σ vs := by
  apply List.ext_getElem?
  intro i
  by_cases m : i ∈ vs
  · by_cases l : i < σ.length
    · rw [wipe_in m l, wipe_in m (by rw [a.len]; exact l)]
    · rw [List.getElem?_eq_none (by rw [wipe_length, a.len]; omega), List.getElem?_eq_none (by rw [wipe_length]; omega)]
  · rw [wipe_out m, wipe_out m]
    exact a.at_ i fun z => m (h i z)
/-! ### targets, quiet -/
abbrev QG := PD → List O → Option (List O)
def TGq (k : Kc) (g : TG) (f : QG) (J : List Nat) : Prop := ∀ (F H : Hp) (σ : L2.St) (ρ ρ' : List O) (S : List Addr) (v : V) (d : PD) (Q : L2.St → Hp → Prop), Qs k F H σ ρ S → Rep k.K F v d → f d ρ = some ρ' →
  (∀ σ' S', Qs k F H σ' ρ' S' → S'.Sublist S → Agr J σ σ' → Q σ' H) → g v σ H Q
def TGsq (k : Kc) (g : TGs) (f : List PD → List O → Option (List O)) (J : List Nat) : Prop := ∀ (F H : Hp) (σ : L2.St) (ρ ρ' : List O) (S : List Addr) (vs : List V) (ds : List PD) (Q : L2.St → Hp → Prop), Qs k F H σ ρ S → Reps k.K F vs ds → f ds ρ = some ρ' →
  (∀ σ' S', Qs k F H σ' ρ' S' → S'.Sublist S → Agr J σ σ' → Q σ' H) → g vs σ H Q
def fName (j : Nat) : QG := fun d ρ => some (ρ.set j (.fz d))
theorem tgq_name {k : Kc} {j : Nat} : TGq k (gName j) (fName j) [j] := by
  intro F H σ ρ ρ' S v d Q q r e h
  have e' := Option.some.inj e
  subst e'
  obtain ⟨S', m, w⟩ := q.env.setR r j
  exact h _ S' ⟨q.fle, w, fun a z => q.off a (m.subset z)⟩ m Agr.set
def fNil : List PD → List O → Option (List O) := fun ds ρ => match ds with
  | [] => some ρ
  | _ :: _ => none
def fCons (f : QG) (r : List PD → List O → Option (List O)) : List PD → List O → Option (List O) := fun ds ρ => match ds with
  | [] => none
  | d :: ds => match f d ρ with
    | none => none
    | some ρ' => r ds ρ'
def fTup (n : Nat) (f : List PD → List O → Option (List O)) : QG := fun d ρ => match d with
  | .tuple ds => if ds.length = n then f ds ρ else none
  | _ => none
theorem tgsq_nil {k : Kc} : TGsq k gNil fNil [] := by
  intro F H σ ρ ρ' S vs ds Q q r e h
  unfold fNil at e
  cases r with
  | nil =>
    have e' := Option.some.inj e
    subst e'
    exact ⟨rfl, h σ S q (.refl _) Agr.refl⟩
  | cons _ _ => cases e
theorem tgsq_cons {k : Kc} {g : TG} {gs : TGs} {f : QG} {fs : List PD → List O → Option (List O)} {J Js : List Nat} (h1 : TGq k g f J) (h2 : TGsq k gs fs Js) : TGsq k (gCons g gs) (fCons f fs) (J ++ Js) := by
  intro F H σ ρ ρ' S vs ds Q q r e h
  unfold fCons at e
  cases r with
  | nil => cases e
  | @cons v d vs ds rv rs =>
    simp only at e
    cases e1 : f d ρ with
    | none => rw [e1] at e; cases e
    | some ρ1 =>
      rw [e1] at e
      refine ⟨v, vs, rfl, h1 F H σ ρ ρ1 S v d _ q rv e1 fun σ1 S1 q1 m1 w1 => ?_⟩
      exact h2 F H σ1 ρ1 ρ' S1 vs ds Q q1 rs e fun σ2 S2 q2 m2 w2 => h σ2 S2 q2 (m2.trans m1) (w1.trans w2)
theorem tgq_tup {k : Kc} {gs : TGs} {fs : List PD → List O → Option (List O)} {J : List Nat} {n : Nat} (h1 : TGsq k gs fs J) : TGq k (gTup k.K n gs) (fTup n fs) J := by
  intro F H σ ρ ρ' S v d Q q r e h
  unfold fTup at e
  split at e
  · split at e
    · rename_i ds hn
      cases r with
      | tup a1 a2 => exact ⟨_, _, rfl, SqT.of (tup_le q.fle a1), by rw [a2.length]; exact hn, h1 F H σ ρ ρ' S _ ds Q q a2 e h⟩
      | dic _ _ e => cases e
      | dit _ _ e => cases e
    · cases e
  · cases e

/-! ### comprehensions of quiet items -/
def lcGo (f : QG) (c : List O → Option Bool) (e : QE) (ρ : List O) : List PD → Option (List PD)
  | [] => some []
  | x :: xs => match f x ρ with
    | none => none
    | some ρ1 => match c ρ1 with
      | none => none
      | some false => lcGo f c e ρ xs
      | some true => match e ρ1 with
        | some (.fz d) => (lcGo f c e ρ xs).map fun r => d :: r
        | _ => none
def qYes : List O → Option Bool := fun _ => some true
theorem ttv_yes {k : Kc} : TTv k tYes qYes := by
  intro F H σ ρ S b Q q e h
  have e' := Option.some.inj e
  subst e'
  exact h F H (Xt.refl q.fle)
def qLc (qi : QI) (f : QG) (c : List O → Option Bool) (e : QE) (vs : List Nat) : QE := fun ρ => match qi ρ with
  | none => none
  | some xs => if xs.length ≤ sizeLine then (lcGo f c e (wipeO ρ vs) xs).map .lst else none
theorem ten_lc {k : Kc} {wi : TI} {g : TG} {tt : TT} {te : TE} {vs : List Nat} {qi : QI} {f : QG} {c : List O → Option Bool} {qe : QE} {J : List Nat} (hi : TIv k wi qi) (hg : TGq k g f J) (hJ : ∀ j ∈ J, j ∈ vs) (ht : TTv k tt c) (he : TEv k te qe) :
    TEn k (tLc wi g tt te vs) (qLc qi f c qe vs) := by
  intro F H σ ρ S o Q q e h
  unfold qLc at e
  cases e1 : qi ρ with
  | none => rw [e1] at e; cases e
  | some xs =>
    rw [e1] at e
    simp only at e
    split at e
    · rename_i hz
      obtain ⟨ys, e2, e3⟩ := Option.map_eq_some_iff.mp e
      subst e3
      refine hi F H σ ρ S xs _ q e1 fun JJ F1 H1 x1 W => ?_
      have q1 := q.xt x1
      intro D hD
      have nD : ∀ {F2 H2 : Hp}, Xt F1 H1 F2 H2 → F2 D = none → Th H2 D → ∀ {F3 H3 : Hp}, Xt F2 H2 F3 H3 → F3 D = none := fun _ n t _ _ x => x.off n t
      have grow : ∀ {F2 H2 : Hp} (l : List V), Xt F1 H1 F2 H2 → F2 D = none → Xt F1 H1 F2 (upd H2 D (.lst l)) := fun {F2 H2} l x n => by
        refine ⟨fun a u z => ?_, x.sub, fun a u z => ?_, x.fresh⟩
        · rw [upd_ne (ne_of_none z hD)]; exact x.ex a u z
        · have ne : a ≠ D := fun w => by rw [w, n] at z; cases z
          rw [upd_ne ne]
          exact x.fle a u z
      let Pv : Nat → Hp → Prop := fun i H2 => ∃ F2 acc done rest, Xt F1 H1 F2 H2 ∧ F2 D = none ∧ H2 D = some (.lst acc) ∧ Reps k.K F2 acc done ∧ lcGo f c qe (wipeO ρ vs) (xs.drop i) = some rest ∧ done ++ rest = ys ∧ done.length ≤ i
      refine ⟨fun i m H2 => m = xs.length - i ∧ i ≤ xs.length ∧ Pv i H2, ⟨_, rfl, Nat.zero_le _, F1, [], [], ys, ?_, fle_none x1.fle hD, upd_same, .nil, ?_, rfl, Nat.le_refl _⟩, ?_⟩
      · exact grow [] (Xt.refl x1.fle) (fle_none x1.fle hD)
      · simpa using e2
      · rintro i m H2 ⟨rfl, hi2, F2, acc, done, rest, x2, n2, a2, r2, e4, e5, l2⟩
        by_cases hlt : i < xs.length
        · refine .inr ⟨W.goes i F2 H2 hlt x2 x2.fle, fun H3 => i + 1 ≤ xs.length ∧ Pv (i + 1) H3, fun H3 p3 => ⟨xs.length - (i + 1), by omega, rfl, p3⟩, fun x H3 y => ?_⟩
          obtain ⟨F3, x3, rx⟩ := W.yields i F2 H2 x H3 hlt x2 x2.fle y
          have x13 := x2.trans x3
          have q3 := (q1.xt x2).xt x3
          obtain ⟨S3, m3, w3⟩ := q3.env.wipe vs
          have qw : Qs k F3 H3 (L2.wipe σ vs) (wipeO ρ vs) S3 := ⟨x3.fle, w3, fun a z => q3.off a (m3 a z)⟩
          rw [List.drop_eq_getElem_cons hlt] at e4
          unfold lcGo at e4
          cases e6 : f xs[i] (wipeO ρ vs) with
          | none => rw [e6] at e4; cases e4
          | some ρ1 =>
            simp only [e6] at e4
            refine hg F3 H3 _ _ ρ1 S3 x xs[i] _ qw rx e6 fun σ4 S4 q4 m4 wp => ⟨by rw [wp.wipe hJ]; exact wipe_wipe vs vs fun _ z => z, ?_⟩
            cases e7 : c ρ1 with
            | none => rw [e7] at e4; cases e4
            | some b =>
              simp only [e7] at e4
              refine ht F3 H3 σ4 ρ1 S4 b _ q4 e7 fun F5 H5 x5 => ?_
              have aD3 : H3 D = some (.lst acc) := x3.ex _ _ a2
              have aD5 : H5 D = some (.lst acc) := x5.ex _ _ aD3
              have n3 : F3 D = none := x3.off n2 (rd_there (.inl a2))
              have n5 : F5 D = none := x5.off n3 (rd_there (.inl aD3))
              cases b with
              | false =>
                rw [if_neg (by decide)]
                exact ⟨hlt, F5, acc, done, rest, x13.trans x5, n5, aD5, (r2.sub x3.sub).sub x5.sub, e4, e5, by omega⟩
              | true =>
                rw [if_pos rfl]
                simp only at e4
                split at e4
                · rename_i d e8
                  obtain ⟨rest', e9, e10⟩ := Option.map_eq_some_iff.mp e4
                  refine he F5 H5 σ4 ρ1 S4 _ _ (q4.xt x5) e8 fun v F6 H6 x6 w6 => ?_
                  have aD6 : H6 D = some (.lst acc) := x6.ex _ _ aD5
                  have n6 : F6 D = none := x6.off n5 (rd_there (.inl aD5))
                  have racc := ((r2.sub x3.sub).sub x5.sub).sub x6.sub
                  refine ⟨acc, aD6, by rw [racc.length]; omega, hlt, F6, acc ++ [v], done ++ [d], rest', ?_, n6, upd_same, racc.append (.cons w6.rep .nil), e9, ?_, by rw [List.length_append]; simp; omega⟩
                  · exact grow _ ((x13.trans x5).trans x6) n6
                  · rw [← e5, ← e10]; simp
                · cases e4
        · have ei : i = xs.length := by omega
          subst ei
          rw [List.drop_length] at e4
          have e4' := Option.some.inj (show some [] = some rest from e4)
          subst e4'
          rw [List.append_nil] at e5
          subst e5
          refine .inl ⟨W.stops F2 H2 x2 x2.fle, ?_⟩
          refine h (.ref D) F2 H2 [D] (x1.trans x2) (.lst (.inl a2) r2) ⟨List.nodup_cons.mpr ⟨List.not_mem_nil, .nil⟩, (fun a z => ?_), (fun a z => ?_), (fun a z ob u z2 => ?_)⟩
          · rw [List.mem_singleton.mp z]; exact none_back x1.ex hD
          · rw [List.mem_singleton.mp z]; exact n2
          · rw [List.mem_singleton.mp z, a2] at z2; cases z2
    · cases e
end FM
namespace FM
open PySem L2 PyProof.Rows
/-! ### what is one's own, against the entry -/
structure Ent where
  F : Hp
  H : Hp
  S : List Addr
structure Fr (e : Ent) (F H : Hp) (S : List Addr) : Prop where
  fle : FLe F H
  nd : S.Nodup
  off : ∀ a ∈ S, F a = none
  there : ∀ a ∈ S, Th H a
  nofz : ∀ a ∈ S, ∀ o u, H a ≠ some (.frz o u)
  own : ∀ a ∈ S, a ∈ e.S ∨ e.H a = none
  f0 : Same e.F F
  fnew : ∀ a u, F a = some u → e.F a ≠ none ∨ a ∈ e.S ∨ e.H a = none ∨ (gnd u ∧ e.H a = some u)
  keep : ∀ a o, e.H a = some o → a ∉ e.S → H a = some o
  dom : ∀ a, e.H a ≠ none → H a ≠ none
theorem Th.ex {H H' : Hp} {a : Addr} (t : Th H a) (s : Same H H') : Th H' a := by
  cases q : H a with
  | none => exact absurd q t.1
  | some u =>
    have := s a u q
    refine ⟨by rw [this]; simp, fun w g z => ?_⟩
    rw [this] at z
    cases z
    exact t.2 _ g q
theorem Fr.mono {e : Ent} {F H : Hp} {S T : List Addr} (f : Fr e F H S) (nd : T.Nodup) (m : ∀ a ∈ T, a ∈ S) : Fr e F H T :=
  ⟨f.fle, nd, fun a z => f.off a (m a z), fun a z => f.there a (m a z), fun a z => f.nofz a (m a z), fun a z => f.own a (m a z), f.f0, f.fnew, f.keep, f.dom⟩
theorem Fr.perm {e : Ent} {F H : Hp} {S T : List Addr} (f : Fr e F H S) (p : T.Perm S) : Fr e F H T := f.mono (p.nodup_iff.mpr f.nd) fun a z => p.mem_iff.mp z
theorem Fr.sub {e : Ent} {F H : Hp} {S T : List Addr} (f : Fr e F H S) (p : T.Sublist S) : Fr e F H T := f.mono (p.nodup f.nd) fun a z => p.subset z
theorem Fr.xt {e : Ent} {F H F' H' : Hp} {S : List Addr} (f : Fr e F H S) (x : Xt F H F' H') : Fr e F' H' S where
  fle := x.fle
  nd := f.nd
  off := fun a m => x.off (f.off a m) (f.there a m)
  there := fun a m => (f.there a m).ex x.ex
  nofz := fun a m o u z => by
    cases q : H a with
    | none => exact (f.there a m).1 q
    | some w =>
      rw [x.ex a w q] at z
      cases z
      exact f.nofz a m o u q
  own := f.own
  f0 := f.f0.trans x.sub
  fnew := fun a u z => by
    rcases x.fresh a u z with q | q | ⟨g, q⟩
    · exact f.fnew a u q
    · refine .inr (.inr (.inl ?_))
      cases w : e.H a with
      | none => rfl
      | some y => exact absurd q (f.dom a (by rw [w]; simp))
    · cases w : e.H a with
      | none => exact .inr (.inr (.inl rfl))
      | some y =>
        by_cases m : a ∈ e.S
        · exact .inr (.inl m)
        · have := f.keep a y w m
          rw [q] at this
          cases this
          exact .inr (.inr (.inr ⟨g, rfl⟩))
  keep := fun a o z n => x.ex a o (f.keep a o z n)
  dom := fun a n => by
    cases q : H a with
    | none => exact absurd q (f.dom a n)
    | some u => rw [x.ex a u q]; simp
theorem Fr.fresh {e : Ent} {F H F' H' : Hp} {S T : List Addr} (f : Fr e F H S) (x : Xt F H F' H') (t : Fresh F' H H' T) (th : ∀ a ∈ T, Th H' a) : Fr e F' H' (T ++ S) :=
  have g := f.xt x
  { g with
    nd := List.nodup_append.mpr ⟨t.nd, g.nd, fun a h1 b h2 z => (f.there b h2).1 (by rw [← z]; exact t.new a h1)⟩
    off := fun a m => (List.mem_append.mp m).elim (t.off a) (g.off a)
    there := fun a m => (List.mem_append.mp m).elim (th a) (g.there a)
    nofz := fun a m => (List.mem_append.mp m).elim (t.nofz a) (g.nofz a)
    own := fun a m => (List.mem_append.mp m).elim (fun z => .inr (by
      cases w : e.H a with
      | none => rfl
      | some y => exact absurd (t.new a z) (f.dom a (by rw [w]; simp)))) (g.own a) }
theorem Fr.freeze {e : Ent} {F H : Hp} {S T : List Addr} (f : Fr e F H (T ++ S)) : Fr e (over F H T) H S where
  fle := over_le f.fle
  nd := (List.nodup_append.mp f.nd).2.1
  off := fun a m => by
    have n : a ∉ T := fun z => (List.nodup_append.mp f.nd).2.2 a z a m rfl
    rw [over_out n]
    exact f.off a (List.mem_append_right _ m)
  there := fun a m => f.there a (List.mem_append_right _ m)
  nofz := fun a m => f.nofz a (List.mem_append_right _ m)
  own := fun a m => f.own a (List.mem_append_right _ m)
  f0 := f.f0.trans (over_sub fun a m => f.off a (List.mem_append_left _ m))
  fnew := fun a u z => by
    rcases over_fresh z with q | q
    · exact f.fnew a u q
    · rcases f.own a (List.mem_append_left _ q) with w | w
      · exact .inr (.inl w)
      · exact .inr (.inr (.inl w))
  keep := f.keep
  dom := f.dom
/-- an owned object changes -/
theorem Fr.write {e : Ent} {F H : Hp} {S : List Addr} {a : Addr} {o : HO} (f : Fr e F H S) (m : a ∈ S) (hn : ∀ ob u, o ≠ .frz ob u) (hg : ¬ gnd o := by rintro ⟨z, e⟩; cases e) : Fr e F (upd H a o) S where
  fle := fun b u z => by
    have ne : b ≠ a := fun w => by rw [w, f.off a m] at z; cases z
    rw [upd_ne ne]
    exact f.fle b u z
  nd := f.nd
  off := f.off
  there := fun b z => by
    by_cases w : b = a
    · rw [w]
      refine ⟨by rw [upd_same]; simp, fun w g z => ?_⟩
      rw [upd_same] at z
      cases z
      exact hg g
    · refine ⟨by rw [upd_ne w]; exact (f.there b z).1, fun w2 g z2 => ?_⟩
      rw [upd_ne w] at z2
      exact (f.there b z).2 w2 g z2
  nofz := fun b z ob u q => by
    by_cases w : b = a
    · rw [w, upd_same] at q; cases q; exact hn _ _ rfl
    · rw [upd_ne w] at q; exact f.nofz b z ob u q
  own := f.own
  f0 := f.f0
  fnew := f.fnew
  keep := fun b u z n => by
    have ne : b ≠ a := fun w => by
      subst w
      rcases f.own b m with q | q
      · exact n q
      · rw [z] at q; cases q
    rw [upd_ne ne]
    exact f.keep b u z n
  dom := fun b n => by
    by_cases w : b = a
    · rw [w, upd_same]; simp
    · rw [upd_ne w]; exact f.dom b n
/-- behind a call that was handed S0 -/
theorem Fr.call {e : Ent} {F H F' H' : Hp} {S R S' : List Addr} (f : Fr e F H (S ++ R)) (c : Fr ⟨F, H, S⟩ F' H' S') : Fr e F' H' (S' ++ R) ∧ At R H H' := by
  have nd := List.nodup_append.mp f.nd
  have notS : ∀ a ∈ R, a ∉ S := fun a m z => nd.2.2 a z a m rfl
  have at_ : At R H H' := fun a m u z => c.keep a u z (notS a m)
  have eown : ∀ a, a ∈ S ∨ H a = none → a ∈ e.S ∨ e.H a = none := fun a z => by
    rcases z with z | z
    · exact f.own a (List.mem_append_left _ z)
    · refine .inr ?_
      cases w : e.H a with
      | none => rfl
      | some y => exact absurd z (f.dom a (by rw [w]; simp))
  refine ⟨⟨c.fle, ?_, fun a m => ?_, fun a m => ?_, fun a m o u z => ?_, fun a m => ?_, f.f0.trans c.f0, fun a u z => ?_, fun a o z n => ?_, fun a n => c.dom a (f.dom a n)⟩, at_⟩
  · refine List.nodup_append.mpr ⟨c.nd, nd.2.1, fun a h1 b h2 z => ?_⟩
    subst z
    rcases c.own a h1 with q | q
    · exact notS a h2 q
    · exact (f.there a (List.mem_append_right _ h2)).1 q
  · rcases List.mem_append.mp m with m | m
    · exact c.off a m
    · cases w : F' a with
      | none => rfl
      | some u =>
        rcases c.fnew a u w with q | q | q | ⟨g, q⟩
        · exact absurd (f.off a (List.mem_append_right _ m)) q
        · exact absurd q (notS a m)
        · exact absurd q (f.there a (List.mem_append_right _ m)).1
        · exact absurd q ((f.there a (List.mem_append_right _ m)).2 u g)
  · rcases List.mem_append.mp m with m | m
    · exact c.there a m
    · have th := f.there a (List.mem_append_right _ m)
      cases w : H a with
      | none => exact absurd w th.1
      | some y =>
        have w2 := at_ a m y w
        refine ⟨by rw [w2]; simp, fun u g z => ?_⟩
        rw [w2] at z
        cases z
        exact th.2 _ g w
  · rcases List.mem_append.mp m with m | m
    · exact c.nofz a m o u z
    · cases w : H a with
      | none => exact (f.there a (List.mem_append_right _ m)).1 w
      | some y =>
        rw [at_ a m y w] at z
        cases z
        exact f.nofz a (List.mem_append_right _ m) o u w
  · rcases List.mem_append.mp m with m | m
    · exact eown a (c.own a m)
    · exact f.own a (List.mem_append_right _ m)
  · rcases c.fnew a u z with q | q | q | ⟨g, q⟩
    · cases w : F a with
      | none => exact absurd w q
      | some y =>
        have := c.f0 a y w
        rw [z] at this
        cases this
        exact f.fnew a _ w
    · rcases eown a (.inl q) with r | r
      · exact .inr (.inl r)
      · exact .inr (.inr (.inl r))
    · rcases eown a (.inr q) with r | r
      · exact .inr (.inl r)
      · exact .inr (.inr (.inl r))
    · cases w : e.H a with
      | none => exact .inr (.inr (.inl rfl))
      | some y =>
        by_cases m : a ∈ e.S
        · exact .inr (.inl m)
        · have := f.keep a y w m
          rw [show H a = some u from q] at this
          cases this
          exact .inr (.inr (.inr ⟨g, rfl⟩))
  · refine c.keep a o (f.keep a o z n) fun q => ?_
    rcases f.own a (List.mem_append_left _ q) with w | w
    · exact n w
    · rw [z] at w; cases w
/-- entries compose -/
theorem Fr.trans {e : Ent} {F H F' H' : Hp} {S S' : List Addr} (f : Fr e F H S) (c : Fr ⟨F, H, S⟩ F' H' S') : Fr e F' H' S' := by
  have f' : Fr e F H (S ++ []) := by rw [List.append_nil]; exact f
  have := (f'.call c).1
  rw [List.append_nil] at this
  exact this
theorem Fr.refl {e : Ent} {F H : Hp} {S : List Addr} (f : Fr e F H S) : Fr ⟨F, H, S⟩ F H S :=
  ⟨f.fle, f.nd, f.off, f.there, f.nofz, fun _ m => .inl m, Same.refl _, fun a u z => .inl (by show F a ≠ none; rw [z]; simp), fun _ _ z _ => z, fun _ n => n⟩

/-! ### the state of a body -/
/-- an exception: its class, what its own fields hold -/
structure Ex where
  c : Nat
  fs : Option (List (Str × PD))
structure StW (k : Kc) (P : List (Nat × V)) (e : Ent) (σ : L2.St) (ρ : List O) (vs : List V) (os : List O) (F H : Hp) (S1 S2 : List Addr) : Prop where
  env : Envs k F H σ ρ S1
  tmp : Owns k F H vs os S2
  fr : Fr e F H (S1 ++ S2)
  pin : ∀ p ∈ P, σ[p.1]? = some (some p.2)
def St (k : Kc) (P : List (Nat × V)) (e : Ent) (σ : L2.St) (ρ : List O) (vs : List V) (os : List O) (H : Hp) : Prop := ∃ F S1 S2, StW k P e σ ρ vs os F H S1 S2
inductive RepF (K : Frag) (F : Hp) : List (Str × V) → List (Str × PD) → Prop
  | nil : RepF K F [] []
  | cons {x : Str} {v : V} {d : PD} {vs : List (Str × V)} {ds : List (Str × PD)} : Rep K F v d → RepF K F vs ds → RepF K F ((x, v) :: vs) ((x, d) :: ds)
def XRep (k : Kc) (F H : Hp) (x : Ex) (c : Value) (d : Option Addr) : Prop := c = .ref (k.cl x.c) ∧ match x.fs with
  | none => d = none
  | some fs => ∃ dx vs, d = some dx ∧ H dx = some (.xd vs) ∧ RepF k.K F vs fs
def StX (k : Kc) (P : List (Nat × V)) (e : Ent) (σ : L2.St) (ρ : List O) (vs : List V) (os : List O) (x : Ex) (c : Value) (d : Option Addr) (H : Hp) : Prop := ∃ F S1 S2, StW k P e σ ρ vs os F H S1 S2 ∧ XRep k F H x c d
inductive R (α : Type) where
  | ok (a : α) (ρ : List O)
  | exc (x : Ex) (ρ : List O)
  | bad
abbrev M (α : Type) := List O → R α
def ROk {α β : Type} (k : Kc) (P : List (Nat × V)) (e : Ent) (σ : L2.St) (vs : List V) (os : List O) (E : XK) (good : α → List O → Prop) : R α → Prop
  | .ok a ρ => good a ρ
  | .exc x ρ => ∀ c d H, StX k P e σ ρ vs os x c d H → E c d H
  | .bad => False
def TEm (k : Kc) (E : XK) (t : TE) (m : M O) : Prop := ∀ (P : List (Nat × V)) (e : Ent) (σ : L2.St) (ρ : List O) (vs : List V) (os : List O) (H : Hp) (Q : VK), St k P e σ ρ vs os H →
  ROk (β := Unit) k P e σ vs os E (fun o ρ' => ∀ v H', St k P e σ ρ' (v :: vs) (o :: os) H' → Q v H') (m ρ) → t σ H Q
def TTm (k : Kc) (E : XK) (t : TT) (m : M Bool) : Prop := ∀ (P : List (Nat × V)) (e : Ent) (σ : L2.St) (ρ : List O) (vs : List V) (os : List O) (H : Hp) (Q : Bool → Hp → Prop), St k P e σ ρ vs os H →
  ROk (β := Unit) k P e σ vs os E (fun b ρ' => ∀ H', St k P e σ ρ' vs os H' → Q b H') (m ρ) → t σ H Q
/-- arguments: Rf says which are slots handed on -/
def RefsAt (σ : L2.St) : List (Option Nat) → List V → Prop
  | [], [] => True
  | none :: as, _ :: ws => RefsAt σ as ws
  | some i :: as, w :: ws => σ[i]? = some (some w) ∧ RefsAt σ as ws
  | _, _ => False
def TAm (k : Kc) (E : XK) (t : TA) (as : List (Option Nat)) (m : M (List O)) : Prop := ∀ (P : List (Nat × V)) (e : Ent) (σ : L2.St) (ρ : List O) (vs : List V) (os : List O) (H : Hp) (Q : List V → Hp → Prop), St k P e σ ρ vs os H →
  ROk (β := Unit) k P e σ vs os E (fun xs ρ' => ∀ ws H', St k P e σ ρ' (ws ++ vs) (xs ++ os) H' → ws.length = xs.length → RefsAt σ as ws → Q ws H') (m ρ) → t σ H Q

theorem StW.qs {k : Kc} {P : List (Nat × V)} {e : Ent} {σ : L2.St} {ρ : List O} {vs : List V} {os : List O} {F H : Hp} {S1 S2 : List Addr} (s : StW k P e σ ρ vs os F H S1 S2) : Qs k F H σ ρ S1 :=
  ⟨s.fr.fle, s.env, fun a m => s.fr.off a (List.mem_append_left _ m)⟩
theorem StW.xt {k : Kc} {P : List (Nat × V)} {e : Ent} {σ : L2.St} {ρ : List O} {vs : List V} {os : List O} {F H F' H' : Hp} {S1 S2 : List Addr} (s : StW k P e σ ρ vs os F H S1 S2) (x : Xt F H F' H') : StW k P e σ ρ vs os F' H' S1 S2 :=
  ⟨s.env.xt x, s.tmp.mono x.sub (At.of x.ex), s.fr.xt x, s.pin⟩
/-- a new value beside -/
theorem StW.push {k : Kc} {P : List (Nat × V)} {e : Ent} {σ : L2.St} {ρ : List O} {vs : List V} {os : List O} {F H F' H' : Hp} {S1 S2 T : List Addr} {v : V} {o : O} (s : StW k P e σ ρ vs os F H S1 S2) (x : Xt F H F' H') (w : Own k F' H' v o T) (t : Fresh F' H H' T) :
    StW k P e σ ρ (v :: vs) (o :: os) F' H' S1 (T ++ S2) := by
  have s' := s.xt x
  refine ⟨s'.env, .cons w s'.tmp, ?_, s.pin⟩
  refine (s.fr.fresh x t w.there).perm ?_
  rw [← List.append_assoc, ← List.append_assoc]
  exact List.Perm.append_right _ List.perm_append_comm
def mLift (q : QE) : M O := fun ρ => match q ρ with
  | some (.fz d) => .ok (.fz d) ρ
  | _ => .bad
def mNew (q : QE) : M O := fun ρ => match q ρ with
  | some o => .ok o ρ
  | none => .bad
section
variable {k : Kc} {E : XK} {t ta tb te : TE} {q : QE} {m m1 m2 : M O}
theorem tem_new (h : TEn k t q) : TEm k E t (mNew q) := by
  intro P e σ ρ vs os H Q s r
  obtain ⟨F, S1, S2, s⟩ := s
  unfold mNew at r
  cases e1 : q ρ with
  | none => rw [e1] at r; exact r.elim
  | some o =>
    rw [e1] at r
    exact h F H σ ρ S1 o Q s.qs e1 fun v F' H' T x w f => r v H' ⟨F', S1, T ++ S2, s.push x w f⟩
theorem tem_lift (h : TEv k t q) : TEm k E t (mLift q) := by
  intro P e σ ρ vs os H Q s r
  obtain ⟨F, S1, S2, s⟩ := s
  unfold mLift at r
  split at r
  · rename_i d e1
    exact h F H σ ρ S1 _ Q s.qs e1 fun v F' H' x w => r v H' ⟨F', S1, [] ++ S2, s.push x (.fz w.rep) ⟨.nil, (fun a m => by cases m), (fun a m => by cases m), (fun a m => by cases m)⟩⟩
  · exact r.elim
/-- what is one's own, frozen -/
def frzM (m : M O) : M O := fun ρ => match m ρ with
  | .ok o ρ' => match toPD o with
    | some d => .ok (.fz d) ρ'
    | none => .bad
  | r => r
theorem StW.frz {P : List (Nat × V)} {e : Ent} {σ : L2.St} {ρ : List O} {vs : List V} {os : List O} {F H : Hp} {S1 S2 : List Addr} {v : V} {o : O} {d : PD} (s : StW k P e σ ρ (v :: vs) (o :: os) F H S1 S2) (e1 : toPD o = some d) :
    St k P e σ ρ (v :: vs) (.fz d :: os) H := by
  obtain ⟨env, tmp, fr, pin⟩ := s
  cases tmp with
  | @cons _ _ _ _ T U w r =>
    have fr' : Fr e F H (T ++ (S1 ++ U)) := fr.perm (by
      rw [← List.append_assoc, ← List.append_assoc]
      exact List.Perm.append_right _ List.perm_append_comm)
    have f2 := fr'.freeze
    have off : ∀ a ∈ T, F a = none := fun a m => fr'.off a (List.mem_append_left _ m)
    exact ⟨over F H T, S1, [] ++ U, env.mono (over_sub off) (At.of (Same.refl _)), .cons (.fz (w.freeze off e1)) (r.mono (over_sub off) (At.of (Same.refl _))), f2, pin⟩
theorem tem_frz (h : TEm k E t m) : TEm k E t (frzM m) := by
  intro P e σ ρ vs os H Q s r
  refine h P e σ ρ vs os H Q s ?_
  unfold frzM at r
  cases e1 : m ρ with
  | ok o ρ' =>
    rw [e1] at r
    simp only at r
    cases e2 : toPD o with
    | none => rw [e2] at r; exact r.elim
    | some d =>
      rw [e2] at r
      intro v H' s'
      obtain ⟨F, S1, S2, s'⟩ := s'
      exact r v H' (s'.frz e2)
  | exc x ρ' => rw [e1] at r; exact r
  | bad => rw [e1] at r; exact r
/-- two operands -/
def mOp (f : O → O → Option O) (m1 m2 : M O) : M O := fun ρ => match m1 ρ with
  | .ok (.fz d1) ρ1 => match m2 ρ1 with
    | .ok (.fz d2) ρ2 => match f (.fz d1) (.fz d2) with
      | some (.fz d) => .ok (.fz d) ρ2
      | _ => .bad
    | .ok _ _ => .bad
    | .exc x ρ2 => .exc x ρ2
    | .bad => .bad
  | .ok _ _ => .bad
  | .exc x ρ1 => .exc x ρ1
  | .bad => .bad
theorem StX.pop {P : List (Nat × V)} {e : Ent} {σ : L2.St} {ρ : List O} {vs : List V} {os : List O} {v : V} {o : O} {x : Ex} {c : Value} {d : Option Addr} {H : Hp} (s : StX k P e σ ρ (v :: vs) (o :: os) x c d H) : StX k P e σ ρ vs os x c d H := by
  obtain ⟨F, S1, S2, ⟨env, tmp, fr, pin⟩, xr⟩ := s
  cases tmp with
  | @cons _ _ _ _ T U w r => exact ⟨F, S1, U, ⟨env, r, fr.sub (List.Sublist.append (.refl _) (List.sublist_append_right _ _)), pin⟩, xr⟩
theorem St.pop {P : List (Nat × V)} {e : Ent} {σ : L2.St} {ρ : List O} {vs : List V} {os : List O} {v : V} {o : O} {H : Hp} (s : St k P e σ ρ (v :: vs) (o :: os) H) : St k P e σ ρ vs os H := by
  obtain ⟨F, S1, S2, ⟨env, tmp, fr, pin⟩⟩ := s
  cases tmp with
  | @cons _ _ _ _ T U w r => exact ⟨F, S1, U, ⟨env, r, fr.sub (List.Sublist.append (.refl _) (List.sublist_append_right _ _)), pin⟩⟩
theorem StW.top {P : List (Nat × V)} {e : Ent} {σ : L2.St} {ρ : List O} {vs : List V} {os : List O} {F H : Hp} {S1 S2 : List Addr} {v : V} {d : PD} (s : StW k P e σ ρ (v :: vs) (.fz d :: os) F H S1 S2) : Rep k.K F v d ∧ StW k P e σ ρ vs os F H S1 S2 := by
  obtain ⟨env, tmp, fr, pin⟩ := s
  cases tmp with
  | cons w r =>
    cases w with
    | fz w => exact ⟨w, ⟨env, r, fr, pin⟩⟩
theorem tem_op {r : R2} {f : O → O → Option O} (h1 : TEm k E ta m1) (h2 : TEm k E tb m2) (hr : OpV k r f) : TEm k E (tOp r ta tb) (mOp f m1 m2) := by
  intro P e σ ρ vs os H Q s g
  refine h1 P e σ ρ vs os H _ s ?_
  unfold mOp at g
  cases e1 : m1 ρ with
  | bad => rw [e1] at g; exact g
  | exc x ρ1 => rw [e1] at g; exact g
  | ok o1 ρ1 =>
    rw [e1] at g
    intro v H1 s1
    cases o1 with
    | fz d1 =>
      simp only at g
      refine h2 P e σ ρ1 _ _ H1 _ s1 ?_
      cases e2 : m2 ρ1 with
      | bad => rw [e2] at g; exact g
      | exc x ρ2 =>
        rw [e2] at g
        exact fun c d H' sx => g c d H' sx.pop
      | ok o2 ρ2 =>
        rw [e2] at g
        intro w H2 s2
        cases o2 with
        | fz d2 =>
          simp only at g
          obtain ⟨F, S1, S2, s2⟩ := s2
          obtain ⟨r2, s3⟩ := s2.top
          obtain ⟨r1, s4⟩ := s3.top
          split at g
          · rename_i d ed
            refine hr F H2 [] v w _ _ _ Q s4.fr.fle (fun a m => by cases m) (fun a m => by cases m) (.fz r1) (.fz r2) ed fun z F' H' x wz => g z H' ⟨F', S1, [] ++ S2, s4.push x (.fz wz.rep) ⟨.nil, (fun a m => by cases m), (fun a m => by cases m), (fun a m => by cases m)⟩⟩
          · exact g.elim
        | _ => exact g.elim
    | _ => exact g.elim
/-- the left one first with effect, then a view -/
def mOpV (f : O → O → Option O) (m1 : M O) (q2 : QE) : M O := fun ρ => match m1 ρ with
  | .ok (.fz d1) ρ1 => match q2 ρ1 with
    | some o2 => match f (.fz d1) o2 with
      | some (.fz d) => .ok (.fz d) ρ1
      | _ => .bad
    | none => .bad
  | .ok _ _ => .bad
  | .exc x ρ1 => .exc x ρ1
  | .bad => .bad
theorem tem_opV {r : R2} {f : O → O → Option O} {q2 : QE} (h1 : TEm k E ta m1) (h2 : TEv k tb q2) (hr : OpV k r f) : TEm k E (tOp r ta tb) (mOpV f m1 q2) := by
  intro P e σ ρ vs os H Q s g
  refine h1 P e σ ρ vs os H _ s ?_
  unfold mOpV at g
  cases e1 : m1 ρ with
  | bad => rw [e1] at g; exact g
  | exc x ρ1 => rw [e1] at g; exact g
  | ok o1 ρ1 =>
    rw [e1] at g
    intro v H1 s1
    cases o1 with
    | fz d1 =>
      simp only at g
      cases e2 : q2 ρ1 with
      | none => rw [e2] at g; exact g.elim
      | some o2 =>
        rw [e2] at g
        simp only at g
        obtain ⟨F, S1, S2, s1⟩ := s1
        obtain ⟨r1, s3⟩ := s1.top
        split at g
        · rename_i d ed
          refine h2 F H1 σ ρ1 S1 o2 _ s3.qs e2 fun w F2 H2 x2 w2 => ?_
          have s4 := s3.xt x2
          exact hr F2 H2 S1 v w _ _ _ Q s4.fr.fle (fun a m => s4.fr.off a (List.mem_append_left _ m)) (fun a m => s4.fr.there a (List.mem_append_left _ m)) (.fz (r1.sub x2.sub)) w2 ed fun z F' H' x wz => g z H' ⟨F', S1, [] ++ S2, s4.push x (.fz wz.rep) ⟨.nil, (fun a m => by cases m), (fun a m => by cases m), (fun a m => by cases m)⟩⟩
        · exact g.elim
    | _ => exact g.elim
theorem Envs.slot {F H : Hp} {σ : L2.St} {ρ : List O} {S : List Addr} {i : Nat} {o : O} (h : Envs k F H σ ρ S) (e : qVar i ρ = some o) : ∃ v, σ[i]? = some (some v) ∧ Vw k F H S v o := by
  have e1 : ρ[i]? = some o ∧ o ≠ .dead := by
    unfold qVar at e
    split at e
    · cases e
    · rename_i hne
      refine ⟨e, fun z => hne ?_⟩
      rw [e, z]
  rcases h.get e1.1 with z | z
  · exact absurd z e1.2
  · exact z
/-- a slot's view on the left, looked up behind the right one's effect -/
def mOpS (f : O → O → Option O) (i : Nat) (m2 : M O) : M O := fun ρ => match qVar i ρ with
  | none => .bad
  | some _ => match m2 ρ with
    | .ok (.fz d2) ρ1 => match qVar i ρ1 with
      | some o1 => match f o1 (.fz d2) with
        | some (.fz d) => .ok (.fz d) ρ1
        | _ => .bad
      | none => .bad
    | .ok _ _ => .bad
    | .exc x ρ1 => .exc x ρ1
    | .bad => .bad
theorem tem_opS {r : R2} {f : O → O → Option O} {i : Nat} (h2 : TEm k E tb m2) (hr : OpV k r f) : TEm k E (tOp r (tVar i) tb) (mOpS f i m2) := by
  intro P e σ ρ vs os H Q s g
  unfold mOpS at g
  cases e0 : qVar i ρ with
  | none => rw [e0] at g; exact g.elim
  | some o0 =>
    rw [e0] at g
    simp only at g
    obtain ⟨F0, S1, S2, s0⟩ := id s
    obtain ⟨v, hv, _⟩ := s0.env.slot e0
    refine ⟨v, hv, h2 P e σ ρ vs os H _ s ?_⟩
    cases e2 : m2 ρ with
    | bad => rw [e2] at g; exact g
    | exc x ρ2 => rw [e2] at g; exact g
    | ok o2 ρ1 =>
      rw [e2] at g
      intro w H2 s2
      cases o2 with
      | fz d2 =>
        simp only at g
        cases e1 : qVar i ρ1 with
        | none => rw [e1] at g; exact g.elim
        | some o1 =>
          rw [e1] at g
          simp only at g
          obtain ⟨F, T1, T2, s2⟩ := s2
          obtain ⟨r2, s4⟩ := s2.top
          obtain ⟨v', hv', wv⟩ := s4.env.slot e1
          rw [hv] at hv'
          cases hv'
          split at g
          · rename_i d ed
            exact hr F H2 T1 v w _ _ _ Q s4.fr.fle (fun a m => s4.fr.off a (List.mem_append_left _ m)) (fun a m => s4.fr.there a (List.mem_append_left _ m)) wv (.fz r2) ed fun z F' H' x wz => g z H' ⟨F', T1, [] ++ T2, s4.push x (.fz wz.rep) ⟨.nil, (fun a m => by cases m), (fun a m => by cases m), (fun a m => by cases m)⟩⟩
          · exact g.elim
      | _ => exact g.elim
end
end FM
namespace FM
open PySem L2 PyProof.Rows
/-! ### parts of a footprint -/
def Sbp (T S : List Addr) : Prop := ∃ U, (T ++ U).Perm S
theorem Sbp.fr {e : Ent} {F H : Hp} {S T : List Addr} (f : Fr e F H S) (h : Sbp T S) : Fr e F H T := by
  obtain ⟨U, p⟩ := h
  exact (f.perm p).sub (List.sublist_append_left _ _)
theorem Sbp.of_count {T S : List Addr} (h : ∀ a, T.count a ≤ S.count a) : Sbp T S := by
  induction T generalizing S with
  | nil => exact ⟨S, .refl _⟩
  | cons a T ih =>
    have ha : a ∈ S := List.count_pos_iff.mp (by
      have := h a
      rw [List.count_cons_self] at this
      omega)
    obtain ⟨U, p⟩ := ih (S := S.erase a) fun b => by
      have hb := h b
      rw [List.count_erase]
      rw [List.count_cons] at hb
      by_cases e : (a == b) = true
      · have eq : a = b := by simpa using e
        subst eq
        simp only [beq_self_eq_true, if_true] at hb ⊢
        omega
      · have ne : ¬ a = b := by simpa using e
        simp only [e] at hb ⊢
        have e2 : (b == a) = false := by simpa using fun z => ne z.symm
        simp at hb ⊢
        omega
    refine ⟨U, ?_⟩
    exact (List.Perm.cons a p).trans (List.perm_cons_erase ha).symm
theorem Sbp.count {T S : List Addr} (h : Sbp T S) (a : Addr) : T.count a ≤ S.count a := by
  obtain ⟨U, p⟩ := h
  have := p.count_eq a
  rw [List.count_append] at this
  omega
theorem Sbp.sub {T S : List Addr} (h : T.Sublist S) : Sbp T S := .of_count fun a => h.count_le a
theorem Sbp.perm {T S : List Addr} (h : T.Perm S) : Sbp T S := .of_count fun a => by rw [h.count_eq a]; exact Nat.le_refl _
theorem Sbp.mem {T S : List Addr} (h : Sbp T S) {a : Addr} (m : a ∈ T) : a ∈ S := List.count_pos_iff.mp (by
  have := h.count a
  have := List.count_pos_iff.mpr m
  omega)
theorem Owns.split {k : Kc} {F H : Hp} : ∀ {ws zs : List V} {xs ys : List O} {S : List Addr}, ws.length = xs.length → Owns k F H (ws ++ zs) (xs ++ ys) S → ∃ A B, S = A ++ B ∧ Owns k F H ws xs A ∧ Owns k F H zs ys B
  | [], _, [], _, S, _, h => ⟨[], S, rfl, .nil, h⟩
  | _ :: ws, _, _ :: xs, _, _, e, .cons (S := T) w r => by
    obtain ⟨A, B, e1, h1, h2⟩ := Owns.split (ws := ws) (xs := xs) (Nat.succ.inj e) r
    subst e1
    exact ⟨T ++ A, B, by rw [List.append_assoc], .cons w h1, h2⟩
theorem Owns.join {k : Kc} {F H : Hp} : ∀ {ws zs : List V} {xs ys : List O} {A B : List Addr}, Owns k F H ws xs A → Owns k F H zs ys B → ∃ S, S = A ++ B ∧ Owns k F H (ws ++ zs) (xs ++ ys) S
  | _, _, _, _, _, B, .nil, h => ⟨B, rfl, h⟩
  | _, _, _, _, _, B, .cons (S := T) (T := U) w r, h => by
    obtain ⟨S, e, q⟩ := Owns.join r h
    exact ⟨T ++ S, by rw [e, List.append_assoc], .cons w q⟩
theorem Envs.take {k : Kc} {F H : Hp} : ∀ {σ : L2.St} {ρ : List O} {S : List Addr} {i : Nat} {o : O}, Envs k F H σ ρ S → ρ[i]? = some o → o ≠ .dead → ∃ v T R, σ[i]? = some (some v) ∧ Own k F H v o T ∧ Envs k F H σ (ρ.set i .dead) R ∧ (T ++ R).Perm S
  | _, _, _, _, _, .nil, e, _ => by simp at e
  | _, _, _, 0, _, .dead r, e, n => by
    have e' : _ = _ := Option.some.inj (by simpa using e)
    exact absurd e'.symm n
  | _, _, _, 0, _, .cons h r, e, n => by
    have e' : _ = _ := Option.some.inj (by simpa using e)
    subst e'
    exact ⟨_, _, _, rfl, h, .dead r, .refl _⟩
  | _, _, _, i + 1, _, .dead r, e, n => by
    obtain ⟨v, T, R, h1, h2, h3, h4⟩ := Envs.take (i := i) r (by simpa using e) n
    exact ⟨v, T, R, by simpa using h1, h2, .dead h3, h4⟩
  | _, _, _, i + 1, _, .cons (S := S1) h r, e, n => by
    obtain ⟨v, T, R, h1, h2, h3, h4⟩ := Envs.take (i := i) r (by simpa using e) n
    refine ⟨v, T, S1 ++ R, by simpa using h1, h2, .cons h h3, List.perm_iff_count.mpr fun a => ?_⟩
    have := h4.count_eq a
    simp only [List.count_append] at this ⊢
    omega
theorem qVar_some {i : Nat} {ρ : List O} {o : O} (e : qVar i ρ = some o) : ρ[i]? = some o ∧ o ≠ .dead := by
  unfold qVar at e
  split at e
  · cases e
  · rename_i hne
    refine ⟨e, fun z => hne ?_⟩
    rw [e, z]
theorem Envs.put {k : Kc} {F H : Hp} {σ : L2.St} {ρ : List O} {S T : List Addr} {i : Nat} {v : V} {o : O} (h : Envs k F H σ ρ S) (hv : σ[i]? = some (some v)) (w : Own k F H v o T) : ∃ U, Sbp U (T ++ S) ∧ Envs k F H σ (ρ.set i o) U := by
  have es : σ.set i (some v) = σ := by
    apply List.ext_getElem?
    intro j
    rw [List.getElem?_set]
    split
    · rename_i e
      subst e
      split
      · exact hv.symm
      · rename_i hn
        rw [List.getElem?_eq_none (by omega)] at hv
        cases hv
    · rfl
  rcases Envs.setO w i h with ⟨S', m, U, p, q⟩ | ⟨S2, m, q⟩
  · rw [es] at q
    refine ⟨U, .of_count fun a => ?_, q⟩
    have h1 := p.count_eq a
    have h2 := m.count_le a
    simp only [List.count_append] at h1 ⊢
    omega
  · rw [es] at q
    refine ⟨S2, .of_count fun a => ?_, q⟩
    have h2 := m.count_le a
    simp only [List.count_append]
    omega
/-! ### arguments -/
def mNil : M (List O) := fun ρ => .ok [] ρ
def mCons (m1 : M O) (m2 : M (List O)) : M (List O) := fun ρ => match m1 ρ with
  | .ok o ρ1 => match m2 ρ1 with
    | .ok xs ρ2 => .ok (o :: xs) ρ2
    | .exc x ρ2 => .exc x ρ2
    | .bad => .bad
  | .exc x ρ1 => .exc x ρ1
  | .bad => .bad
def mRef (i : Nat) (m2 : M (List O)) : M (List O) := fun ρ => match qVar i ρ with
  | none => .bad
  | some _ => match m2 ρ with
    | .ok xs ρ2 => .ok (.dead :: xs) ρ2
    | .exc x ρ2 => .exc x ρ2
    | .bad => .bad
section
variable {k : Kc} {E : XK} {te : TE} {tl : TA} {m1 : M O} {m2 : M (List O)} {as : List (Option Nat)}
theorem tam_nil : TAm k E tNil [] mNil := by
  intro P e σ ρ vs os H Q s g
  exact g [] H s rfl trivial
theorem StW.rot {P : List (Nat × V)} {e : Ent} {σ : L2.St} {ρ : List O} {vs ws : List V} {os xs : List O} {F H : Hp} {S1 S2 : List Addr} {v : V} {o : O} (hl : ws.length = xs.length) (s : StW k P e σ ρ (ws ++ v :: vs) (xs ++ o :: os) F H S1 S2) :
    St k P e σ ρ ((v :: ws) ++ vs) ((o :: xs) ++ os) H := by
  obtain ⟨env, tmp, fr, pin⟩ := s
  obtain ⟨A, B, e1, h1, h2⟩ := Owns.split hl tmp
  subst e1
  cases h2 with
  | @cons _ _ _ _ T U w r =>
    obtain ⟨S, e2, h3⟩ := Owns.join (.cons w h1) r
    refine ⟨F, S1, S, env, h3, fr.perm ?_, pin⟩
    subst e2
    refine List.perm_iff_count.mpr fun a => ?_
    simp only [List.count_append]
    omega
theorem StX.drop {P : List (Nat × V)} {e : Ent} {σ : L2.St} {ρ : List O} {vs : List V} {os : List O} {v : V} {o : O} {x : Ex} {c : Value} {d : Option Addr} {H : Hp} (s : StX k P e σ ρ (v :: vs) (o :: os) x c d H) : StX k P e σ ρ vs os x c d H := s.pop
theorem tam_val (h1 : TEm k E te m1) (h2 : TAm k E tl as m2) : TAm k E (tCons te tl) (none :: as) (mCons m1 m2) := by
  intro P e σ ρ vs os H Q s g
  refine h1 P e σ ρ vs os H _ s ?_
  unfold mCons at g
  cases e1 : m1 ρ with
  | bad => rw [e1] at g; exact g
  | exc x ρ1 => rw [e1] at g; exact g
  | ok o ρ1 =>
    rw [e1] at g
    intro v H1 s1
    simp only at g
    refine h2 P e σ ρ1 _ _ H1 _ s1 ?_
    cases e2 : m2 ρ1 with
    | bad => rw [e2] at g; exact g
    | exc x ρ2 =>
      rw [e2] at g
      exact fun c d H' sx => g c d H' sx.pop
    | ok xs ρ2 =>
      rw [e2] at g
      intro ws H2 s2 hl hr
      obtain ⟨F, S1, S2, s2⟩ := s2
      exact g (v :: ws) H2 (s2.rot hl) (by simp [hl]) hr
theorem tam_ref {i : Nat} (h2 : TAm k E tl as m2) : TAm k E (tCons (tVar i) tl) (some i :: as) (mRef i m2) := by
  intro P e σ ρ vs os H Q s g
  unfold mRef at g
  cases e0 : qVar i ρ with
  | none => rw [e0] at g; exact g.elim
  | some o0 =>
    rw [e0] at g
    simp only at g
    obtain ⟨F0, S1, S2, s0⟩ := id s
    obtain ⟨v, hv, _⟩ := s0.env.slot e0
    refine ⟨v, hv, ?_⟩
    have s1 : St k P e σ ρ (v :: vs) (.dead :: os) H := ⟨F0, S1, [] ++ S2, s0.env, .cons .dead s0.tmp, s0.fr, s0.pin⟩
    refine h2 P e σ ρ _ _ H _ s1 ?_
    cases e2 : m2 ρ with
    | bad => rw [e2] at g; exact g
    | exc x ρ2 =>
      rw [e2] at g
      exact fun c d H' sx => g c d H' sx.pop
    | ok xs ρ2 =>
      rw [e2] at g
      intro ws H2 s2 hl hr
      obtain ⟨F, S1, S2, s2⟩ := s2
      exact g (v :: ws) H2 (s2.rot hl) (by simp [hl]) ⟨hv, hr⟩
end
def fillA : List (Option Nat) → List O → List O → Option (List O × List O)
  | [], [], ρ => some ([], ρ)
  | none :: as, x :: xs, ρ => match fillA as xs ρ with
    | none => none
    | some z => some (x :: z.1, z.2)
  | some i :: as, _ :: xs, ρ => match qVar i ρ with
    | none => none
    | some o => match fillA as xs (ρ.set i .dead) with
      | none => none
      | some z => some (o :: z.1, z.2)
  | _, _, _ => none
def backA : List (Option Nat) → List O → List O → List O
  | none :: as, _ :: xs, ρ => backA as xs ρ
  | some i :: as, o :: xs, ρ => backA as xs (ρ.set i o)
  | _, _, ρ => ρ
theorem fill_ok {k : Kc} {F H : Hp} {σ : L2.St} : ∀ {as : List (Option Nat)} {xs ρ ys ρ' : List O} {ws : List V} {S A : List Addr}, Envs k F H σ ρ S → Owns k F H ws xs A → RefsAt σ as ws → fillA as xs ρ = some (ys, ρ') →
    ∃ S' A', Envs k F H σ ρ' S' ∧ Owns k F H ws ys A' ∧ Sbp (A' ++ S') (A ++ S)
  | [], [], ρ, ys, ρ', ws, S, A, en, ow, _, e => by
    have e' := Option.some.inj e
    cases e'
    cases ow
    exact ⟨S, [], en, .nil, .perm (.refl _)⟩
  | none :: as, x :: xs, ρ, ys, ρ', _, S, _, en, .cons (S := T) (T := A2) w r, hr, e => by
    unfold fillA at e
    cases e1 : fillA as xs ρ with
    | none => rw [e1] at e; cases e
    | some z =>
      rw [e1] at e
      have e' := Option.some.inj e
      cases e'
      obtain ⟨S', A', h1, h2, h3⟩ := fill_ok en r (show RefsAt σ as _ from hr) e1
      refine ⟨S', T ++ A', h1, .cons w h2, .of_count fun a => ?_⟩
      have := h3.count a
      simp only [List.count_append] at this ⊢
      omega
  | some i :: as, x :: xs, ρ, ys, ρ', v :: ws, S, _, en, .cons (S := T) (T := A2) w r, hr, e => by
    unfold fillA at e
    cases e0 : qVar i ρ with
    | none => rw [e0] at e; cases e
    | some o =>
      rw [e0] at e
      simp only at e
      cases e1 : fillA as xs (ρ.set i .dead) with
      | none => rw [e1] at e; cases e
      | some z =>
        rw [e1] at e
        have e' := Option.some.inj e
        cases e'
        obtain ⟨hv, hr⟩ := hr
        obtain ⟨g1, g2⟩ := qVar_some e0
        obtain ⟨v', T', R, a1, a2, a3, a4⟩ := en.take g1 g2
        rw [hv] at a1
        cases a1
        obtain ⟨S', A', h1, h2, h3⟩ := fill_ok a3 r hr e1
        refine ⟨S', T' ++ A', h1, .cons a2 h2, .of_count fun a => ?_⟩
        have c1 := h3.count a
        have c2 := a4.count_eq a
        simp only [List.count_append] at c1 c2 ⊢
        omega
  | [], _ :: _, _, _, _, _, _, _, _, _, _, e => by cases e
  | none :: _, [], _, _, _, _, _, _, _, _, _, e => by cases e
  | some _ :: _, [], _, _, _, _, _, _, _, _, _, e => by cases e
theorem back_ok {k : Kc} {F H : Hp} {σ : L2.St} : ∀ {as : List (Option Nat)} {outs ρ : List O} {ws : List V} {S A : List Addr}, Envs k F H σ ρ S → Owns k F H ws outs A → RefsAt σ as ws → ∃ S', Envs k F H σ (backA as outs ρ) S' ∧ Sbp S' (A ++ S)
  | [], outs, ρ, ws, S, A, en, ow, _ => ⟨S, en, .sub (List.sublist_append_right _ _)⟩
  | none :: as, [], ρ, ws, S, A, en, ow, _ => ⟨S, en, .sub (List.sublist_append_right _ _)⟩
  | some i :: as, [], ρ, ws, S, A, en, ow, _ => ⟨S, en, .sub (List.sublist_append_right _ _)⟩
  | none :: as, x :: xs, ρ, _, S, _, en, .cons (S := T) (T := A2) w r, hr => by
    obtain ⟨S', h1, h2⟩ := back_ok en r (show RefsAt σ as _ from hr)
    refine ⟨S', h1, .of_count fun a => ?_⟩
    have := h2.count a
    simp only [List.count_append] at this ⊢
    omega
  | some i :: as, x :: xs, ρ, v :: ws, S, _, en, .cons (S := T) (T := A2) w r, hr => by
    obtain ⟨hv, hr⟩ := hr
    obtain ⟨U, h0, en'⟩ := en.put hv w
    obtain ⟨S', h1, h2⟩ := back_ok en' r hr
    refine ⟨S', h1, .of_count fun a => ?_⟩
    have c1 := h2.count a
    have c2 := h0.count a
    simp only [List.count_append] at c1 c2 ⊢
    omega
/-! ### what a def does -/
inductive FR where
  | ret (o : O) (outs : List O)
  | exc (x : Ex) (outs : List O)
  | bad
def FOk (k : Kc) (e : Ent) (ws : List V) (Q : VK) (E : XK) : FR → Prop
  | .ret o outs => ∀ v H', (∃ F' S', Owns k F' H' (v :: ws) (o :: outs) S' ∧ Fr e F' H' S') → Q v H'
  | .exc x outs => ∀ c d H', (∃ F' S', Owns k F' H' ws outs S' ∧ Fr e F' H' S' ∧ XRep k F' H' x c d) → E c d H'
  | .bad => False
def spM (k : Kc) (n : Nat) (f : List O → FR) : Sp := fun ws H Q E => ws.length = n ∧ ∃ F os S, Owns k F H ws os S ∧ Fr ⟨F, H, S⟩ F H S ∧ FOk k ⟨F, H, S⟩ ws Q E (f os)
def mCall (f : List O → FR) (as : List (Option Nat)) (ma : M (List O)) : M O := fun ρ => match ma ρ with
  | .ok xs ρ1 => match fillA as xs ρ1 with
    | none => .bad
    | some z => match f z.1 with
      | .ret o outs => .ok o (backA as outs z.2)
      | .exc x outs => .exc x (backA as outs z.2)
      | .bad => .bad
  | .exc x ρ1 => .exc x ρ1
  | .bad => .bad
theorem tem_call {k : Kc} {E : XK} {tl : TA} {as : List (Option Nat)} {ma : M (List O)} {n : Nat} {f : List O → FR} (hn : as.length = n) (h : TAm k E tl as ma) : TEm k E (tCall (spM k n f) [] E tl) (mCall f as ma) := by
  intro P e σ ρ vs os H Q s g
  refine h P e σ ρ vs os H _ s ?_
  unfold mCall at g
  cases e1 : ma ρ with
  | bad => rw [e1] at g; exact g
  | exc x ρ1 => rw [e1] at g; exact g
  | ok xs ρ1 =>
    rw [e1] at g
    simp only at g
    intro ws H1 s1 hl hr
    cases e2 : fillA as xs ρ1 with
    | none => rw [e2] at g; exact g.elim
    | some z =>
      obtain ⟨ys, ρ2⟩ := z
      rw [e2] at g
      simp only at g
      obtain ⟨F, S1, S2, env, tmp, fr, pin⟩ := s1
      obtain ⟨A, B, eS, o1, o2⟩ := Owns.split hl tmp
      subst eS
      obtain ⟨S1', A', h1, h2, h3⟩ := fill_ok env o1 hr e2
      have fr' : Fr e F H1 (A' ++ (S1' ++ B)) := Sbp.fr fr (.of_count fun a => by
        have := h3.count a
        simp only [List.count_append] at this ⊢
        omega)
      have lens : ∀ {as : List (Option Nat)} {ws : List V}, RefsAt σ as ws → ws.length = as.length := by
        intro as
        induction as with
        | nil =>
          intro ws z
          cases ws with
          | nil => rfl
          | cons _ _ => exact z.elim
        | cons a as ih =>
          intro ws z
          cases ws with
          | nil => cases a <;> exact z.elim
          | cons w ws =>
            cases a with
            | none => exact congrArg (· + 1) (ih (show RefsAt σ as ws from z))
            | some i => exact congrArg (· + 1) (ih z.2)
      rw [List.append_nil]
      refine ⟨by rw [lens hr]; exact hn, F, ys, A', h2, (fr'.sub (List.sublist_append_left _ _)).refl, ?_⟩
      cases e3 : f ys with
      | bad => rw [e3] at g; exact g
      | ret o outs =>
        rw [e3] at g
        simp only at g
        intro v H' z
        obtain ⟨F', S', p1, p2⟩ := z
        obtain ⟨p3, p4⟩ := fr'.call p2
        cases p1 with
        | @cons _ _ _ _ T U w r =>
          obtain ⟨S'', q1, q2⟩ := back_ok (h1.mono p2.f0 p4.left) r hr
          refine g v H' ⟨F', S'', T ++ B, q1, .cons w (o2.mono p2.f0 p4.right), Sbp.fr p3 (.of_count fun a => ?_), pin⟩
          have := q2.count a
          simp only [List.count_append] at this ⊢
          omega
      | exc x outs =>
        rw [e3] at g
        simp only at g
        intro c d H' z
        obtain ⟨F', S', p1, p2, p5⟩ := z
        obtain ⟨p3, p4⟩ := fr'.call p2
        obtain ⟨S'', q1, q2⟩ := back_ok (h1.mono p2.f0 p4.left) p1 hr
        refine g c d H' ⟨F', S'', B, ⟨q1, o2.mono p2.f0 p4.right, Sbp.fr p3 (.of_count fun a => ?_), pin⟩, p5⟩
        have := q2.count a
        simp only [List.count_append] at this ⊢
        omega
/-! ### quiet defs: data in, data out -/
abbrev QF := List PD → Option PD
def spQ (k : Kc) (n : Nat) (q : QF) : Sp := fun ws H Q E => ws.length = n ∧ ∃ F ds d, Reps k.K F ws ds ∧ FLe F H ∧ q ds = some d ∧ ∀ v F' H', Xt F H F' H' → Rep k.K F' v d → Q v H'
def qOf (f : List O → FR) : QF := fun ds => match f (ds.map .fz) with
  | .ret o _ => toPD o
  | _ => none
theorem Reps.owns {k : Kc} {F H : Hp} : ∀ {vs : List V} {ds : List PD}, Reps k.K F vs ds → Owns k F H vs (ds.map .fz) []
  | _, _, .nil => .nil
  | _, _, .cons h r => .cons (.fz h) (Reps.owns r)
theorem spQ.imp {k : Kc} {n : Nat} {f : List O → FR} {ws : List V} {H : Hp} {Q : VK} {E : XK} (h : spQ k n (qOf f) ws H Q E) : spM k n f ws H Q E := by
  obtain ⟨hn, F, ds, d, r, fl, e, q⟩ := h
  refine ⟨hn, F, ds.map .fz, [], r.owns, ⟨fl, .nil, (fun a m => by cases m), (fun a m => by cases m), (fun a m => by cases m), (fun a m => by cases m), Same.refl _, fun a u z => .inl (by show F a ≠ none; rw [z]; simp), fun _ _ z _ => z, fun _ n => n⟩, ?_⟩
  unfold qOf at e
  split at e
  · rename_i o outs e1
    rw [e1]
    intro v H' z
    obtain ⟨F', S', p1, p2⟩ := z
    cases p1 with
    | @cons _ _ _ _ T U w r =>
      have off : ∀ a ∈ T, F' a = none := fun a m => p2.off a (List.mem_append_left _ m)
      refine q v (over F' H' T) H' ⟨fun a u z => p2.keep a u z (by simp), p2.f0.trans (over_sub off), over_le p2.fle, fun a u z => ?_⟩ (w.freeze off e)
      have z2 := z
      rcases over_fresh z with z | z
      · rcases p2.fnew a u z with y | y | y
        · cases w : F a with
          | none => exact absurd w y
          | some t =>
            have := p2.f0 a t w
            rw [z] at this
            exact .inl (by rw [this])
        · cases y
        · exact .inr y
      · rcases p2.own a (List.mem_append_left _ z) with y | y
        · cases y
        · exact .inr (.inl y)
  · cases e
mutual
def imm : PD → Bool
  | .none => true
  | .bool _ => true
  | .int _ => true
  | .str _ => true
  | .tuple ds => imms ds
  | .list _ => false
  | .dict _ => false
def imms : List PD → Bool
  | [] => true
  | d :: ds => imm d && imms ds
end
mutual
theorem Rep.imm {K : Frag} {F G : Hp} (s : ∀ a vs, F a = some (.tup vs) → G a = some (.tup vs)) : ∀ {v : V} {d : PD}, Rep K F v d → FM.imm d = true → Rep K G v d
  | _, _, .non, _ => .non
  | _, _, .bl b, _ => .bl b
  | _, _, .int i, _ => .int i
  | _, _, .str x, _ => .str x
  | _, _, .lst h r, e => by simp [FM.imm] at e
  | _, _, .tup h r, e => .tup (s _ _ h) (Reps.imm s r (by simpa [FM.imm] using e))
  | _, _, .dic h r e1, e => by subst e1; simp [FM.imm] at e
  | _, _, .dit h r e1, e => by subst e1; simp [FM.imm] at e
theorem Reps.imm {K : Frag} {F G : Hp} (s : ∀ a vs, F a = some (.tup vs) → G a = some (.tup vs)) : ∀ {v : List V} {d : List PD}, Reps K F v d → FM.imms d = true → Reps K G v d
  | _, _, .nil, _ => .nil
  | _, _, .cons h r, e => by
    have e' : _ ∧ _ := Bool.and_eq_true_iff.mp (by simpa only [FM.imms] using e)
    exact .cons (Rep.imm s h e'.1) (Reps.imm s r e'.2)
end
/-! lists and dicts of one's own, without tuples -/
mutual
def flatO : O → Bool
  | .fz _ => true
  | .lst _ => true
  | .dic _ => true
  | .dit _ => true
  | .nst os => flatOs os
  | .ntp _ => false
  | .ndc _ => false
  | .ins _ _ => false
  | .ktp _ => false
  | .dead => true
def flatOs : List O → Bool
  | [] => true
  | o :: os => flatO o && flatOs os
end
theorem rd_notup {H : Hp} {a : Addr} {u : HO} (h : Rd H a u) (hu : ∀ vs, u ≠ .tup vs) : ∀ vs, H a ≠ some (.tup vs) := fun vs z => by
  rcases h with h | ⟨o, h⟩
  · rw [h] at z; cases z; exact hu vs rfl
  · rw [h] at z; cases z
mutual
theorem Own.notup {k : Kc} {F H : Hp} : ∀ {v : V} {o : O} {S : List Addr}, Own k F H v o S → flatO o = true → ∀ a ∈ S, ∀ vs, H a ≠ some (.tup vs)
  | _, _, _, .fz _, _, a, m => by cases m
  | _, _, _, .lst h _, _, a, m => by rw [List.mem_singleton.mp m]; exact rd_notup h fun _ z => by cases z
  | _, _, _, .dic h _, _, a, m => by rw [List.mem_singleton.mp m]; exact rd_notup h fun _ z => by cases z
  | _, _, _, .dit h _, _, a, m => by rw [List.mem_singleton.mp m]; exact rd_notup h fun _ z => by cases z
  | _, _, _, .nst h r, e, a, m => by
    rcases List.mem_cons.mp m with e1 | m
    · rw [e1]; exact rd_notup h fun _ z => by cases z
    · exact Owns.notup r (by simpa [flatO] using e) a m
  | _, _, _, .ntp _ _ _, e, a, m => by simp [flatO] at e
  | _, _, _, .ndc _ _, e, a, m => by simp [flatO] at e
  | _, _, _, .ins _ _, e, a, m => by simp [flatO] at e
  | _, _, _, .ktp _ _, e, a, m => by cases m
  | _, _, _, .dead, _, a, m => by cases m
theorem Owns.notup {k : Kc} {F H : Hp} : ∀ {v : List V} {o : List O} {S : List Addr}, Owns k F H v o S → flatOs o = true → ∀ a ∈ S, ∀ vs, H a ≠ some (.tup vs)
  | _, _, _, .nil, _, a, m => by cases m
  | _, _, _, .cons h r, e, a, m => by
    have e' : _ ∧ _ := Bool.and_eq_true_iff.mp (by simpa only [flatOs] using e)
    exact (List.mem_append.mp m).elim (Own.notup h e'.1 a) (Owns.notup r e'.2 a)
end
def qCall (q : QF) (r : List O → Option (List O)) : QE := fun ρ => match r ρ with
  | none => none
  | some os => match fzs os with
    | some ds => (q ds).map .fz
    | none => if flatOs os then match toPDs os with
      | none => none
      | some ds => match q ds with
        | none => none
        | some d => if imm d then some (.fz d) else none
      else none
theorem Vws.length {k : Kc} {F H : Hp} {S : List Addr} : ∀ {vs : List V} {os : List O}, Vws k F H S vs os → vs.length = os.length
  | _, _, .nil => rfl
  | _, _, .cons _ r => congrArg (· + 1) (Vws.length r)
theorem fzs_length : ∀ {os : List O} {ds : List PD}, fzs os = some ds → os.length = ds.length
  | [], ds, e => by
    have e' := Option.some.inj e
    subst e'
    rfl
  | .fz d :: r, ds, e => by
    obtain ⟨z, e1, e2⟩ := Option.map_eq_some_iff.mp (show (fzs r).map (fun z => d :: z) = some ds from e)
    subst e2
    simp [fzs_length e1]
  | .lst _ :: _, _, e => by cases e
  | .dic _ :: _, _, e => by cases e
  | .dit _ :: _, _, e => by cases e
  | .nst _ :: _, _, e => by cases e
  | .ntp _ :: _, _, e => by cases e
  | .ndc _ :: _, _, e => by cases e
  | .ins _ _ :: _, _, e => by cases e
  | .ktp _ :: _, _, e => by cases e
  | .dead :: _, _, e => by cases e
/-- views of lists and dicts: together what they lean on -/
theorem Vws.flat {k : Kc} {F H : Hp} {S : List Addr} (off : ∀ a ∈ S, F a = none) : ∀ {vs : List V} {os : List O} {ds : List PD}, Vws k F H S vs os → flatOs os = true → toPDs os = some ds → ∃ T : List Addr, (∀ a ∈ T, a ∈ S) ∧ (∀ a ∈ T, ∀ vs, H a ≠ some (.tup vs)) ∧ (∀ U : List Addr, (∀ a ∈ T, a ∈ U) → (∀ a ∈ U, a ∈ S) → Reps k.K (over F H U) vs ds)
  | _, _, _, .nil, _, e => by
    have e' := Option.some.inj e
    subst e'
    exact ⟨[], (fun a m => by cases m), (fun a m => by cases m), fun _ _ _ => .nil⟩
  | _, _, _, .cons (o := o) (os := os) w ws, fl, e => by
    have fl' : _ ∧ _ := Bool.and_eq_true_iff.mp (by simpa only [flatOs] using fl)
    unfold toPDs at e
    cases q1 : toPD o with
    | none => rw [q1] at e; cases e
    | some d =>
      cases q2 : toPDs os with
      | none => rw [q1, q2] at e; cases e
      | some ds =>
        rw [q1, q2] at e
        have e' := Option.some.inj e
        subst e'
        obtain ⟨T1, m1, w1⟩ := w
        obtain ⟨T2, m2, n2, r2⟩ := Vws.flat off ws fl'.2 q2
        refine ⟨T1 ++ T2, fun a z => (List.mem_append.mp z).elim (m1 a) (m2 a), fun a z => (List.mem_append.mp z).elim (Own.notup w1 fl'.1 a) (n2 a), fun U h1 h2 => ?_⟩
        refine .cons ?_ (r2 U (fun a z => h1 a (List.mem_append_right _ z)) h2)
        exact own_fz (T := U) (over_sub fun a z => off a (h2 a z)) (fun a u m r => over_rd m r) (fun a vs m r => by rw [over_in m]; exact r) (fun a z => h1 a (List.mem_append_left _ z)) w1 q1
theorem tev_call {k : Kc} {E : XK} {tl : TA} {qs : List O → Option (List O)} {n : Nat} {q : QF} (hn : ∀ ρ os, qs ρ = some os → os.length = n) (h : TAv k tl qs) : TEv k (tCall (spQ k n q) [] E tl) (qCall q qs) := by
  intro F H σ ρ S o Q qst e g
  unfold qCall at e
  cases e1 : qs ρ with
  | none => rw [e1] at e; cases e
  | some os =>
    rw [e1] at e
    simp only at e
    refine h F H σ ρ S os _ qst e1 fun ws F1 H1 x1 w1 => ?_
    have q1 := qst.xt x1
    rw [List.append_nil]
    refine ⟨by rw [w1.length]; exact hn ρ os e1, ?_⟩
    cases e2 : fzs os with
    | some ds =>
      rw [e2] at e
      obtain ⟨d, e3, e4⟩ := Option.map_eq_some_iff.mp e
      subst e4
      exact ⟨F1, ds, d, w1.fzs e2, x1.fle, e3, fun v F' H' x r => g v F' H' (x1.trans x) (.fz r)⟩
    | none =>
      rw [e2] at e
      simp only at e
      split at e
      · rename_i fl
        cases e3 : toPDs os with
        | none => rw [e3] at e; cases e
        | some ds =>
          rw [e3] at e
          simp only at e
          cases e4 : q ds with
          | none => rw [e4] at e; cases e
          | some d =>
            rw [e4] at e
            simp only at e
            split at e
            · rename_i im
              have e' := Option.some.inj e
              subst e'
              obtain ⟨T, mT, nT, rT⟩ := w1.flat q1.off fl e3
              have offT : ∀ a ∈ T, F1 a = none := fun a z => q1.off a (mT a z)
              refine ⟨over F1 H1 T, ds, d, rT T (fun _ z => z) mT, over_le x1.fle, e4, fun v F' H' x r => ?_⟩
              let G : Hp := fun a => if a ∈ T then none else F' a
              have gout : ∀ {a : Addr}, a ∉ T → G a = F' a := fun n => if_neg n
              have hT : ∀ a ∈ T, ∃ u, H1 a = some u := fun a z => by
                cases w : H1 a with
                | none => exact absurd w ((q1.env.there a (mT a z)).1)
                | some u => exact ⟨u, rfl⟩
              refine g v G H' (x1.trans ⟨x.ex, fun a u z => ?_, fun a u z => ?_, fun a u z => ?_⟩) (.fz (r.imm (fun a vs z => ?_) im))
              · have n : a ∉ T := fun m => by rw [offT a m] at z; cases z
                rw [gout n]
                exact x.sub a u (by rw [over_out n]; exact z)
              · by_cases n : a ∈ T
                · have : G a = none := if_pos n
                  rw [this] at z; cases z
                · rw [gout n] at z
                  exact x.fle a u z
              · by_cases n : a ∈ T
                · have : G a = none := if_pos n
                  rw [this] at z; cases z
                · rw [gout n] at z
                  rcases x.fresh a u z with y | y
                  · rw [over_out n] at y; exact .inl y
                  · exact .inr y
              · have n : a ∉ T := fun m => by
                  obtain ⟨u, hu⟩ := hT a m
                  have := x.sub a u (by rw [over_in m]; exact hu)
                  rw [z] at this
                  cases this
                  exact nT a m vs hu
                rw [gout n]
                exact z
            · cases e
      · cases e
end FM
namespace FM
open PySem L2 PyProof.Rows
/-! ### statements -/
inductive RS where
  | next (ρ : List O)
  | ret (o : O) (ρ : List O)
  | brk (ρ : List O)
  | cont (ρ : List O)
  | exc (x : Ex) (ρ : List O)
  | bad
abbrev MS := List O → RS
def SOk (k : Kc) (P : List (Nat × V)) (e : Ent) (vs : List V) (os : List O) (E : XK) (D : Ends) : RS → Prop
  | .next ρ => ∀ σ H, St k P e σ ρ vs os H → D.nx σ H
  | .ret o ρ => ∀ σ v H, St k P e σ ρ (v :: vs) (o :: os) H → D.rt v H
  | .brk ρ => ∀ σ H, St k P e σ ρ vs os H → D.bk σ H
  | .cont ρ => ∀ σ H, St k P e σ ρ vs os H → D.ct σ H
  | .exc x ρ => ∀ σ c d H, StX k P e σ ρ vs os x c d H → E c d H
  | .bad => False
def Off (P : List (Nat × V)) (A : List Nat) : Prop := ∀ p ∈ P, p.1 ∉ A
theorem Off.l {P : List (Nat × V)} {A B : List Nat} (h : Off P (A ++ B)) : Off P A := fun p m z => h p m (List.mem_append_left _ z)
theorem Off.r {P : List (Nat × V)} {A B : List Nat} (h : Off P (A ++ B)) : Off P B := fun p m z => h p m (List.mem_append_right _ z)
def TSm (k : Kc) (E : XK) (A : List Nat) (t : TS) (m : MS) : Prop := ∀ (P : List (Nat × V)) (e : Ent) (σ : L2.St) (ρ : List O) (vs : List V) (os : List O) (H : Hp) (D : Ends), Off P A → St k P e σ ρ vs os H →
  SOk k P e vs os E D (m ρ) → t D σ H
def sNext : MS := fun ρ => .next ρ
def sSeq (a b : MS) : MS := fun ρ => match a ρ with
  | .next ρ1 => b ρ1
  | r => r
def sBrk : MS := fun ρ => .brk ρ
def sCont : MS := fun ρ => .cont ρ
def sNever : MS := fun _ => .bad
def sDrop (m : M O) : MS := fun ρ => match m ρ with
  | .ok _ ρ1 => .next ρ1
  | .exc x ρ1 => .exc x ρ1
  | .bad => .bad
def sRet (m : M O) : MS := fun ρ => match m ρ with
  | .ok o ρ1 => .ret o ρ1
  | .exc x ρ1 => .exc x ρ1
  | .bad => .bad
def sRetN : MS := fun ρ => .ret (.fz .none) ρ
def sSet (j : Nat) (m : M O) : MS := fun ρ => match m ρ with
  | .ok o ρ1 => .next (ρ1.set j o)
  | .exc x ρ1 => .exc x ρ1
  | .bad => .bad
def sAsg (f : QG) (m : M O) : MS := fun ρ => match m ρ with
  | .ok (.fz d) ρ1 => match f d ρ1 with
    | some ρ2 => .next ρ2
    | none => .bad
  | .ok _ _ => .bad
  | .exc x ρ1 => .exc x ρ1
  | .bad => .bad
def sPar (i j : Nat) (m : M (List O)) : MS := fun ρ => match m ρ with
  | .ok [o1, o2] ρ1 => .next ((ρ1.set i o1).set j o2)
  | .ok _ _ => .bad
  | .exc x ρ1 => .exc x ρ1
  | .bad => .bad
def sPar3 (i j l : Nat) (m : M (List O)) : MS := fun ρ => match m ρ with
  | .ok [o1, o2, o3] ρ1 => .next (((ρ1.set i o1).set j o2).set l o3)
  | .ok _ _ => .bad
  | .exc x ρ1 => .exc x ρ1
  | .bad => .bad
def sIf (c : M Bool) (a b : MS) : MS := fun ρ => match c ρ with
  | .ok true ρ1 => a ρ1
  | .ok false ρ1 => b ρ1
  | .exc x ρ1 => .exc x ρ1
  | .bad => .bad
def bLift (q : List O → Option Bool) : M Bool := fun ρ => match q ρ with
  | some b => .ok b ρ
  | none => .bad
/-- where a state's end is stored: one takes the top -/
theorem St.store {k : Kc} {P : List (Nat × V)} {e : Ent} {σ : L2.St} {ρ : List O} {vs : List V} {os : List O} {H : Hp} {v : V} {o : O} {j : Nat} (s : St k P e σ ρ (v :: vs) (o :: os) H) (hj : Off P [j]) : St k P e (σ.set j (some v)) (ρ.set j o) vs os H := by
  obtain ⟨F, S1, S2, env, tmp, fr, pin⟩ := s
  have pin' : ∀ p ∈ P, (σ.set j (some v))[p.1]? = some (some p.2) := fun p m => by
    rw [List.getElem?_set_ne (fun z => hj p m (by rw [z]; exact List.mem_cons_self))]
    exact pin p m
  cases tmp with
  | @cons _ _ _ _ T U w r =>
    rcases Envs.setO w j env with ⟨S', m, U', p, q⟩ | ⟨S', m, q⟩
    · refine ⟨F, U', U, q, r, Sbp.fr fr (.of_count fun a => ?_), pin'⟩
      have c1 := p.count_eq a
      have c2 := m.count_le a
      simp only [List.count_append] at c1 ⊢
      omega
    · refine ⟨F, S', U, q, r, Sbp.fr fr (.of_count fun a => ?_), pin'⟩
      have c2 := m.count_le a
      simp only [List.count_append]
      omega
section
variable {k : Kc} {E : XK} {te : TE} {m m1 m2 : M O} {t u : TS} {a b : MS} {A B : List Nat} {tc : TT}
theorem tsm_next : TSm k E [] tNext sNext := fun P e σ ρ vs os H D _ s g => g σ H s
theorem tsm_brk : TSm k E [] tBreak sBrk := fun P e σ ρ vs os H D _ s g => g σ H s
theorem tsm_cont : TSm k E [] tCont sCont := fun P e σ ρ vs os H D _ s g => g σ H s
theorem tsm_never : TSm k E [] tNever sNever := fun P e σ ρ vs os H D _ s g => g
theorem tsm_seq (h1 : TSm k E A t a) (h2 : TSm k E B u b) : TSm k E (A ++ B) (tSeq t u) (sSeq a b) := by
  intro P e σ ρ vs os H D o s g
  refine h1 P e σ ρ vs os H _ o.l s ?_
  unfold sSeq at g
  cases e1 : a ρ with
  | next ρ1 =>
    rw [e1] at g
    intro σ1 H1 s1
    exact h2 P e σ1 ρ1 vs os H1 D o.r s1 g
  | ret o ρ1 => rw [e1] at g; exact g
  | brk ρ1 => rw [e1] at g; exact g
  | cont ρ1 => rw [e1] at g; exact g
  | exc x ρ1 => rw [e1] at g; exact g
  | bad => rw [e1] at g; exact g
theorem SOk.exc {P : List (Nat × V)} {e : Ent} {σ : L2.St} {vs : List V} {os : List O} {D : Ends} {x : Ex} {ρ : List O} (g : SOk k P e vs os E D (.exc x ρ)) : ∀ c d H, StX k P e σ ρ vs os x c d H → E c d H := fun c d H s => g σ c d H s
theorem tsm_drop (h : TEm k E te m) : TSm k E [] (tDrop te) (sDrop m) := by
  intro P e σ ρ vs os H D o s g
  refine h P e σ ρ vs os H _ s ?_
  unfold sDrop at g
  cases e1 : m ρ with
  | ok x ρ1 => rw [e1] at g; exact fun v H1 s1 => g σ H1 s1.pop
  | exc x ρ1 => rw [e1] at g; exact g.exc
  | bad => rw [e1] at g; exact g
theorem tsm_ret (h : TEm k E te m) : TSm k E [] (tRet te) (sRet m) := by
  intro P e σ ρ vs os H D o s g
  refine h P e σ ρ vs os H _ s ?_
  unfold sRet at g
  cases e1 : m ρ with
  | ok x ρ1 => rw [e1] at g; exact fun v H1 s1 => g σ v H1 s1
  | exc x ρ1 => rw [e1] at g; exact g.exc
  | bad => rw [e1] at g; exact g
theorem tsm_retN : TSm k E [] tRetN sRetN := by
  intro P e σ ρ vs os H D o s g
  obtain ⟨F, S1, S2, env, tmp, fr, pin⟩ := s
  exact g σ .non H ⟨F, S1, [] ++ S2, env, .cons (.fz .non) tmp, fr, pin⟩
theorem tsm_set {j : Nat} (h : TEm k E te m) : TSm k E [j] (tAsg te (gName j)) (sSet j m) := by
  intro P e σ ρ vs os H D o s g
  refine h P e σ ρ vs os H _ s ?_
  unfold sSet at g
  cases e1 : m ρ with
  | ok x ρ1 => rw [e1] at g; exact fun v H1 s1 => g _ H1 (s1.store o)
  | exc x ρ1 => rw [e1] at g; exact g.exc
  | bad => rw [e1] at g; exact g
theorem St.target {P : List (Nat × V)} {e : Ent} {σ : L2.St} {ρ ρ' : List O} {vs : List V} {os : List O} {H : Hp} {v : V} {d : PD} {g : TG} {f : QG} {J : List Nat} {Q : L2.St → Hp → Prop} (hg : TGq k g f J) (s : St k P e σ ρ (v :: vs) (.fz d :: os) H) (o : Off P J) (e1 : f d ρ = some ρ') (q : ∀ σ', St k P e σ' ρ' vs os H → Q σ' H) : g v σ H Q := by
  obtain ⟨F, S1, S2, s⟩ := s
  obtain ⟨r, s2⟩ := s.top
  refine hg F H σ ρ ρ' S1 v d Q s2.qs r e1 fun σ' S' q' m' ag => q σ' ⟨F, S', S2, q'.env, s2.tmp, s2.fr.sub (List.Sublist.append m' (.refl _)), fun p m => ?_⟩
  rw [ag.at_ p.1 (o p m)]
  exact s2.pin p m
theorem tsm_asg {g : TG} {f : QG} {J : List Nat} (hg : TGq k g f J) (h : TEm k E te m) : TSm k E J (tAsg te g) (sAsg f m) := by
  intro P e σ ρ vs os H D o s g'
  refine h P e σ ρ vs os H _ s ?_
  unfold sAsg at g'
  cases e1 : m ρ with
  | ok x ρ1 =>
    rw [e1] at g'
    intro v H1 s1
    cases x with
    | fz d =>
      simp only at g'
      cases e2 : f d ρ1 with
      | none => rw [e2] at g'; exact g'.elim
      | some ρ2 =>
        rw [e2] at g'
        exact St.target hg s1 o e2 fun σ' s2 => g' σ' H1 s2
    | _ => exact g'.elim
  | exc x ρ1 => rw [e1] at g'; exact g'.exc
  | bad => rw [e1] at g'; exact g'
theorem St.swap {P : List (Nat × V)} {e : Ent} {σ : L2.St} {ρ : List O} {vs : List V} {os : List O} {H : Hp} {v w : V} {x y : O} (s : St k P e σ ρ (v :: w :: vs) (x :: y :: os) H) : St k P e σ ρ (w :: v :: vs) (y :: x :: os) H := by
  obtain ⟨F, S1, S2, env, tmp, fr, pin⟩ := s
  cases tmp with
  | @cons _ _ _ _ T U w1 r =>
    cases r with
    | @cons _ _ _ _ T2 U2 w2 r =>
      refine ⟨F, S1, T2 ++ (T ++ U2), env, .cons w2 (.cons w1 r), Sbp.fr fr (.of_count fun a => ?_), pin⟩
      simp only [List.count_append]
      omega
theorem tsm_par {i j : Nat} {ta : TA} {as : List (Option Nat)} {m : M (List O)} (h : TAm k E ta as m) : TSm k E [i, j] (tPar i j ta) (sPar i j m) := by
  intro P e σ ρ vs os H D o s g
  refine h P e σ ρ vs os H _ s ?_
  unfold sPar at g
  cases e1 : m ρ with
  | ok xs ρ1 =>
    rw [e1] at g
    intro ws H1 s1 hl _
    split at g
    · rename_i o1 o2 ρ2 e2
      cases e2
      match ws, hl with
      | [v, w], _ =>
        have s1 : St k P e σ ρ1 (v :: w :: vs) (o1 :: o2 :: os) H1 := s1
        exact ⟨v, w, rfl, g _ H1 ((s1.store fun p m z => o p m (by rw [List.mem_singleton.mp z]; simp)).store fun p m z => o p m (by rw [List.mem_singleton.mp z]; simp))⟩
    · exact g.elim
    · rename_i e2; cases e2
    · rename_i e2; cases e2
  | exc x ρ1 => rw [e1] at g; exact g.exc
  | bad => rw [e1] at g; exact g
end
end FM
namespace FM
open PySem L2 PyProof.Rows
section
variable {k : Kc} {E : XK} {te : TE} {m m1 m2 : M O} {t u : TS} {a b : MS} {A B : List Nat} {tc : TT}
theorem tsm_par3 {i j l : Nat} {ta : TA} {as : List (Option Nat)} {m : M (List O)} (h : TAm k E ta as m) : TSm k E [i, j, l] (tPar3 i j l ta) (sPar3 i j l m) := by
  intro P e σ ρ vs os H D o s g
  refine h P e σ ρ vs os H _ s ?_
  unfold sPar3 at g
  cases e1 : m ρ with
  | ok xs ρ1 =>
    rw [e1] at g
    intro ws H1 s1 hl _
    split at g
    · rename_i o1 o2 o3 ρ2 e2
      cases e2
      match ws, hl with
      | [v, w, z], _ =>
        have s1 : St k P e σ ρ1 (v :: w :: z :: vs) (o1 :: o2 :: o3 :: os) H1 := s1
        exact ⟨v, w, z, rfl, g _ H1 (((s1.store fun p m z => o p m (by rw [List.mem_singleton.mp z]; simp)).store fun p m z => o p m (by rw [List.mem_singleton.mp z]; simp)).store fun p m z => o p m (by rw [List.mem_singleton.mp z]; simp))⟩
    · exact g.elim
    · rename_i e2; cases e2
    · rename_i e2; cases e2
  | exc x ρ1 => rw [e1] at g; exact g.exc
  | bad => rw [e1] at g; exact g
theorem ttm_lift {q : List O → Option Bool} (h : TTv k tc q) : TTm k E tc (bLift q) := by
  intro P e σ ρ vs os H Q s g
  obtain ⟨F, S1, S2, s⟩ := s
  unfold bLift at g
  cases e1 : q ρ with
  | none => rw [e1] at g; exact g.elim
  | some b =>
    rw [e1] at g
    exact h F H σ ρ S1 b Q s.qs e1 fun F' H' x => g H' ⟨F', S1, S2, s.xt x⟩
def bTest (m : M O) : M Bool := fun ρ => match m ρ with
  | .ok (.fz (.bool b)) ρ1 => .ok b ρ1
  | .ok _ _ => .bad
  | .exc x ρ1 => .exc x ρ1
  | .bad => .bad
theorem St.bool {P : List (Nat × V)} {e : Ent} {σ : L2.St} {ρ : List O} {vs : List V} {os : List O} {H : Hp} {v : V} {b : Bool} (s : St k P e σ ρ (v :: vs) (.fz (.bool b) :: os) H) : v = .bl b ∧ St k P e σ ρ vs os H := by
  obtain ⟨F, S1, S2, s⟩ := s
  obtain ⟨r, s2⟩ := s.top
  refine ⟨?_, F, S1, S2, s2⟩
  cases r with
  | bl => rfl
  | dic _ _ e => cases e
  | dit _ _ e => cases e
theorem ttm_test (h : TEm k E te m) : TTm k E (tTest te) (bTest m) := by
  intro P e σ ρ vs os H Q s g
  refine h P e σ ρ vs os H _ s ?_
  unfold bTest at g
  cases e1 : m ρ with
  | ok x ρ1 =>
    rw [e1] at g
    intro v H1 s1
    split at g
    · rename_i b ρ2 e2
      cases e2
      obtain ⟨ev, s2⟩ := s1.bool
      exact ⟨b, ev, g H1 s2⟩
    · exact g.elim
    · rename_i e2; cases e2
    · rename_i e2; cases e2
  | exc x ρ1 => rw [e1] at g; exact g
  | bad => rw [e1] at g; exact g
theorem ttm_B (h : TEm k E te m) : TTm k E (tB te) (bTest m) := by
  intro P e σ ρ vs os H Q s g
  refine h P e σ ρ vs os H _ s ?_
  unfold bTest at g
  cases e1 : m ρ with
  | ok x ρ1 =>
    rw [e1] at g
    intro v H1 s1
    split at g
    · rename_i b ρ2 e2
      cases e2
      obtain ⟨ev, s2⟩ := s1.bool
      exact ⟨b, ev, g H1 s2⟩
    · exact g.elim
    · rename_i e2; cases e2
    · rename_i e2; cases e2
  | exc x ρ1 => rw [e1] at g; exact g
  | bad => rw [e1] at g; exact g
def bAnd (c d : M Bool) : M Bool := fun ρ => match c ρ with
  | .ok true ρ1 => d ρ1
  | r => r
def bOr (c d : M Bool) : M Bool := fun ρ => match c ρ with
  | .ok false ρ1 => d ρ1
  | r => r
def bNot (c : M Bool) : M Bool := fun ρ => match c ρ with
  | .ok b ρ1 => .ok (!b) ρ1
  | r => r
theorem ttm_and {t1 t2 : TT} {c d : M Bool} (h1 : TTm k E t1 c) (h2 : TTm k E t2 d) : TTm k E (tAnd t1 t2) (bAnd c d) := by
  intro P e σ ρ vs os H Q s g
  refine h1 P e σ ρ vs os H _ s ?_
  unfold bAnd at g
  cases e1 : c ρ with
  | ok x ρ1 =>
    rw [e1] at g
    intro H1 s1
    cases x with
    | true => rw [if_pos rfl]; exact h2 P e σ ρ1 vs os H1 Q s1 g
    | false => rw [if_neg (by decide)]; exact g H1 s1
  | exc x ρ1 => rw [e1] at g; exact g
  | bad => rw [e1] at g; exact g
theorem ttm_or {t1 t2 : TT} {c d : M Bool} (h1 : TTm k E t1 c) (h2 : TTm k E t2 d) : TTm k E (tOr t1 t2) (bOr c d) := by
  intro P e σ ρ vs os H Q s g
  refine h1 P e σ ρ vs os H _ s ?_
  unfold bOr at g
  cases e1 : c ρ with
  | ok x ρ1 =>
    rw [e1] at g
    intro H1 s1
    cases x with
    | false => rw [if_neg (by decide)]; exact h2 P e σ ρ1 vs os H1 Q s1 g
    | true => rw [if_pos rfl]; exact g H1 s1
  | exc x ρ1 => rw [e1] at g; exact g
  | bad => rw [e1] at g; exact g
theorem ttm_not {t1 : TT} {c : M Bool} (h1 : TTm k E t1 c) : TTm k E (tNot t1) (bNot c) := by
  intro P e σ ρ vs os H Q s g
  refine h1 P e σ ρ vs os H _ s ?_
  unfold bNot at g
  cases e1 : c ρ with
  | ok x ρ1 =>
    rw [e1] at g
    exact fun H1 s1 => g H1 s1
  | exc x ρ1 => rw [e1] at g; exact g
  | bad => rw [e1] at g; exact g
/-- values by and, or, not, if with effects -/
def mIf (c : M Bool) (a b : M O) : M O := fun ρ => match c ρ with
  | .ok true ρ1 => a ρ1
  | .ok false ρ1 => b ρ1
  | .exc x ρ1 => .exc x ρ1
  | .bad => .bad
theorem tem_if {ta tb : TE} {c : M Bool} (hc : TTm k E tc c) (h1 : TEm k E ta m1) (h2 : TEm k E tb m2) : TEm k E (tIf tc ta tb) (mIf c m1 m2) := by
  intro P e σ ρ vs os H Q s g
  refine hc P e σ ρ vs os H _ s ?_
  unfold mIf at g
  cases e1 : c ρ with
  | ok x ρ1 =>
    rw [e1] at g
    intro H1 s1
    cases x with
    | true => rw [if_pos rfl]; exact h1 P e σ ρ1 vs os H1 Q s1 g
    | false => rw [if_neg (by decide)]; exact h2 P e σ ρ1 vs os H1 Q s1 g
  | exc x ρ1 => rw [e1] at g; exact g
  | bad => rw [e1] at g; exact g
def mAnd (a b : M O) : M O := fun ρ => match a ρ with
  | .ok (.fz (.bool true)) ρ1 => b ρ1
  | .ok (.fz (.bool false)) ρ1 => .ok (.fz (.bool false)) ρ1
  | .ok _ _ => .bad
  | .exc x ρ1 => .exc x ρ1
  | .bad => .bad
def mOr (a b : M O) : M O := fun ρ => match a ρ with
  | .ok (.fz (.bool false)) ρ1 => b ρ1
  | .ok (.fz (.bool true)) ρ1 => .ok (.fz (.bool true)) ρ1
  | .ok _ _ => .bad
  | .exc x ρ1 => .exc x ρ1
  | .bad => .bad
def mNot (a : M O) : M O := fun ρ => match a ρ with
  | .ok (.fz (.bool b)) ρ1 => .ok (.fz (.bool (!b))) ρ1
  | .ok _ _ => .bad
  | .exc x ρ1 => .exc x ρ1
  | .bad => .bad
theorem St.val {P : List (Nat × V)} {e : Ent} {σ : L2.St} {ρ : List O} {vs : List V} {os : List O} {H : Hp} {v : V} {d : PD} (r : ∀ F, Rep k.K F v d) (s : St k P e σ ρ vs os H) : St k P e σ ρ (v :: vs) (.fz d :: os) H := by
  obtain ⟨F, S1, S2, env, tmp, fr, pin⟩ := s
  exact ⟨F, S1, [] ++ S2, env, .cons (.fz (r F)) tmp, fr, pin⟩
theorem tem_and {ta tb : TE} (h1 : TEm k E ta m1) (h2 : TEm k E tb m2) : TEm k E (tAndV ta tb) (mAnd m1 m2) := by
  intro P e σ ρ vs os H Q s g
  refine h1 P e σ ρ vs os H _ s ?_
  unfold mAnd at g
  cases e1 : m1 ρ with
  | ok x ρ1 =>
    rw [e1] at g
    intro v H1 s1
    split at g
    · rename_i e2
      cases e2
      obtain ⟨ev, s2⟩ := s1.bool
      refine ⟨true, ev, ?_⟩
      rw [if_pos rfl]
      exact h2 P e σ ρ1 vs os H1 Q s2 g
    · rename_i e2
      cases e2
      obtain ⟨ev, s2⟩ := s1.bool
      refine ⟨false, ev, ?_⟩
      rw [if_neg (by decide)]
      exact g _ H1 (s2.val fun F => .bl false)
    · exact g.elim
    · rename_i e2; cases e2
    · rename_i e2; cases e2
  | exc x ρ1 => rw [e1] at g; exact g
  | bad => rw [e1] at g; exact g
theorem tem_or {ta tb : TE} (h1 : TEm k E ta m1) (h2 : TEm k E tb m2) : TEm k E (tOrV ta tb) (mOr m1 m2) := by
  intro P e σ ρ vs os H Q s g
  refine h1 P e σ ρ vs os H _ s ?_
  unfold mOr at g
  cases e1 : m1 ρ with
  | ok x ρ1 =>
    rw [e1] at g
    intro v H1 s1
    split at g
    · rename_i e2
      cases e2
      obtain ⟨ev, s2⟩ := s1.bool
      refine ⟨false, ev, ?_⟩
      rw [if_neg (by decide)]
      exact h2 P e σ ρ1 vs os H1 Q s2 g
    · rename_i e2
      cases e2
      obtain ⟨ev, s2⟩ := s1.bool
      refine ⟨true, ev, ?_⟩
      rw [if_pos rfl]
      exact g _ H1 (s2.val fun F => .bl true)
    · exact g.elim
    · rename_i e2; cases e2
    · rename_i e2; cases e2
  | exc x ρ1 => rw [e1] at g; exact g
  | bad => rw [e1] at g; exact g
theorem tem_not {ta : TE} (h1 : TEm k E ta m1) : TEm k E (tNotV ta) (mNot m1) := by
  intro P e σ ρ vs os H Q s g
  refine h1 P e σ ρ vs os H _ s ?_
  unfold mNot at g
  cases e1 : m1 ρ with
  | ok x ρ1 =>
    rw [e1] at g
    intro v H1 s1
    split at g
    · rename_i b ρ2 e2
      cases e2
      obtain ⟨ev, s2⟩ := s1.bool
      exact ⟨b, ev, g _ H1 (s2.val fun F => .bl _)⟩
    · exact g.elim
    · rename_i e2; cases e2
    · rename_i e2; cases e2
  | exc x ρ1 => rw [e1] at g; exact g
  | bad => rw [e1] at g; exact g
theorem tsm_if {c : M Bool} (hc : TTm k E tc c) (h1 : TSm k E A t a) (h2 : TSm k E B u b) : TSm k E (A ++ B) (tIfS tc t u) (sIf c a b) := by
  intro P e σ ρ vs os H D o s g
  refine hc P e σ ρ vs os H _ s ?_
  unfold sIf at g
  cases e1 : c ρ with
  | ok x ρ1 =>
    rw [e1] at g
    intro H1 s1
    cases x with
    | true => rw [if_pos rfl]; exact h1 P e σ ρ1 vs os H1 D o.l s1 g
    | false => rw [if_neg (by decide)]; exact h2 P e σ ρ1 vs os H1 D o.r s1 g
  | exc x ρ1 => rw [e1] at g; exact g.exc
  | bad => rw [e1] at g; exact g
/-! ### loops -/
theorem StW.trans {P : List (Nat × V)} {e : Ent} {F H : Hp} {S : List Addr} (f : Fr e F H S) {σ : L2.St} {ρ : List O} {vs : List V} {os : List O} {F' H' : Hp} {S1 S2 : List Addr} (s : StW k P ⟨F, H, S⟩ σ ρ vs os F' H' S1 S2) : StW k P e σ ρ vs os F' H' S1 S2 :=
  ⟨s.env, s.tmp, f.trans s.fr, s.pin⟩
theorem St.trans {P : List (Nat × V)} {e : Ent} {F H : Hp} {S : List Addr} (f : Fr e F H S) {σ : L2.St} {ρ : List O} {vs : List V} {os : List O} {H' : Hp} (s : St k P ⟨F, H, S⟩ σ ρ vs os H') : St k P e σ ρ vs os H' :=
  let ⟨F', S1, S2, s⟩ := s
  ⟨F', S1, S2, s.trans f⟩
theorem StX.trans {P : List (Nat × V)} {e : Ent} {F H : Hp} {S : List Addr} (f : Fr e F H S) {σ : L2.St} {ρ : List O} {vs : List V} {os : List O} {H' : Hp} {x : Ex} {c : Value} {d : Option Addr} (s : StX k P ⟨F, H, S⟩ σ ρ vs os x c d H') : StX k P e σ ρ vs os x c d H' :=
  let ⟨F', S1, S2, s, r⟩ := s
  ⟨F', S1, S2, s.trans f, r⟩
/-- what is walked, with effect -/
def TIm (k : Kc) (E : XK) (wi : TI) (m : M (List PD)) : Prop := ∀ (P : List (Nat × V)) (e : Ent) (σ : L2.St) (ρ : List O) (vs : List V) (os : List O) (H : Hp) (R : It → Hp → Prop), St k P e σ ρ vs os H →
  ROk (β := Unit) k P e σ vs os E (fun ds ρ' => ∀ J F' H' S1 S2, StW k P e σ ρ' vs os F' H' S1 S2 → WalkD k (fun F2 _ => Same F' F2) J ds → R J H') (m ρ) → wi σ H R
def iLift (q : QI) : M (List PD) := fun ρ => match q ρ with
  | some ds => .ok ds ρ
  | none => .bad
theorem tim_lift {wi : TI} {q : QI} (h : TIf k wi q) : TIm k E wi (iLift q) := by
  intro P e σ ρ vs os H R s g
  obtain ⟨F, S1, S2, s⟩ := s
  unfold iLift at g
  cases e1 : q ρ with
  | none => rw [e1] at g; exact g.elim
  | some ds =>
    rw [e1] at g
    exact h F H σ ρ S1 ds R s.qs e1 fun J F' H' x w => g J F' H' S1 S2 (s.xt x) w
def iList (m : M O) : M (List PD) := fun ρ => match m ρ with
  | .ok (.fz (.list ds)) ρ1 => .ok ds ρ1
  | .ok _ _ => .bad
  | .exc x ρ1 => .exc x ρ1
  | .bad => .bad
def iTup (m : M O) : M (List PD) := fun ρ => match m ρ with
  | .ok (.fz (.tuple ds)) ρ1 => .ok ds ρ1
  | .ok _ _ => .bad
  | .exc x ρ1 => .exc x ρ1
  | .bad => .bad
theorem tim_list (h : TEm k E te m) : TIm k E (L2.iList k.K te) (FM.iList m) := by
  intro P e σ ρ vs os H R s g
  refine h P e σ ρ vs os H _ s ?_
  unfold FM.iList at g
  cases e1 : m ρ with
  | ok x ρ1 =>
    rw [e1] at g
    intro v H1 s1
    split at g
    · rename_i ds ρ2 e2
      cases e2
      obtain ⟨F, S1, S2, s1⟩ := s1
      obtain ⟨r, s2⟩ := s1.top
      obtain ⟨a, vs, rfl, g1, g2⟩ := (Vw.fz (k := k) (H := H1) (S := []) r).fzL rfl
      exact ⟨a, rfl, ⟨vs, sqL_le s2.fr.fle g1⟩, g _ F H1 S1 S2 s2 (walkD_list (fun F2 H2 p f => ⟨sqL_le f (sqL_sub p g1), g2.sub p⟩) g2.length)⟩
    · exact g.elim
    · rename_i e2; cases e2
    · rename_i e2; cases e2
  | exc x ρ1 => rw [e1] at g; exact g
  | bad => rw [e1] at g; exact g
theorem tim_tup (h : TEm k E te m) : TIm k E (L2.iTup k.K te) (FM.iTup m) := by
  intro P e σ ρ vs os H R s g
  refine h P e σ ρ vs os H _ s ?_
  unfold FM.iTup at g
  cases e1 : m ρ with
  | ok x ρ1 =>
    rw [e1] at g
    intro v H1 s1
    split at g
    · rename_i ds ρ2 e2
      cases e2
      obtain ⟨F, S1, S2, s1⟩ := s1
      obtain ⟨r, s2⟩ := s1.top
      obtain ⟨a, vs, rfl, g1, g2⟩ := (Vw.fz (k := k) (H := F) (S := []) r).seqT (fun a u e => .inl e) (show FM.seqT (.fz (.tuple ds)) = some ds from rfl)
      exact ⟨a, rfl, ⟨vs, SqT.of (tup_le s2.fr.fle g1)⟩, g _ F H1 S1 S2 s2 (walkD_tup (fun F2 H2 p f => ⟨SqT.of (tup_le f (p _ _ g1)), g2.sub p⟩) g2.length)⟩
    · exact g.elim
    · rename_i e2; cases e2
    · rename_i e2; cases e2
  | exc x ρ1 => rw [e1] at g; exact g
  | bad => rw [e1] at g; exact g
def forGo (f : QG) (body : MS) : List PD → List O → RS
  | [], ρ => .next ρ
  | x :: xs, ρ => match f x ρ with
    | none => .bad
    | some ρ1 => match body ρ1 with
      | .next ρ2 => forGo f body xs ρ2
      | .cont ρ2 => forGo f body xs ρ2
      | .brk ρ2 => .next ρ2
      | .ret o ρ2 => .ret o ρ2
      | .exc x ρ2 => .exc x ρ2
      | .bad => .bad
def sFor (mi : M (List PD)) (f : QG) (body : MS) : MS := fun ρ => match mi ρ with
  | .ok ds ρ1 => forGo f body ds ρ1
  | .exc x ρ1 => .exc x ρ1
  | .bad => .bad
theorem tsm_for {wi : TI} {g : TG} {tb : TS} {mi : M (List PD)} {f : QG} {body : MS} {J : List Nat} (hi : TIm k E wi mi) (hg : TGq k g f J) (hb : TSm k E A tb body) : TSm k E (J ++ A) (tFor wi g tb) (sFor mi f body) := by
  intro P e σ ρ vs os H D o s gg
  refine hi P e σ ρ vs os H _ s ?_
  unfold sFor at gg
  cases e1 : mi ρ with
  | exc x ρ1 => rw [e1] at gg; exact gg.exc
  | bad => rw [e1] at gg; exact gg
  | ok ds ρ1 =>
    rw [e1] at gg
    simp only at gg
    intro It F H1 S1 S2 s1 W
    have f0 : Fr e F H1 (S1 ++ S2) := s1.fr
    let e' : Ent := ⟨F, H1, S1 ++ S2⟩
    have s1' : St k P e' σ ρ1 vs os H1 := ⟨F, S1, S2, s1.env, s1.tmp, s1.fr.refl, s1.pin⟩
    refine ⟨fun i n σ H => n = ds.length - i ∧ i ≤ ds.length ∧ ∃ ρi, St k P e' σ ρi vs os H ∧ SOk k P e vs os E D (forGo f body (ds.drop i) ρi), ⟨_, rfl, Nat.zero_le _, ρ1, s1', by simpa using gg⟩, ?_⟩
    rintro i n σ2 H2 ⟨rfl, hi2, ρi, s2, g2⟩
    by_cases hlt : i < ds.length
    · obtain ⟨F2, T1, T2, s2⟩ := s2
      refine .inr ⟨W.goes i F2 H2 hlt s2.fr.f0 s2.fr.fle, fun σ' H' => i + 1 ≤ ds.length ∧ ∃ ρi, St k P e' σ' ρi vs os H' ∧ SOk k P e vs os E D (forGo f body (ds.drop (i + 1)) ρi), fun σ' H' z => ⟨_, ?_, rfl, z.1, z.2⟩, fun x H3 y => ?_⟩
      · omega
      · obtain ⟨F3, x3, rx⟩ := W.yields i F2 H2 x H3 hlt s2.fr.f0 s2.fr.fle y
        rw [List.drop_eq_getElem_cons hlt] at g2
        unfold forGo at g2
        cases e6 : f ds[i] ρi with
        | none => rw [e6] at g2; exact g2.elim
        | some ρ4 =>
          simp only [e6] at g2
          have s3 : St k P e' σ2 ρi (x :: vs) (.fz ds[i] :: os) H3 := ⟨F3, T1, [] ++ T2, s2.push x3 (.fz rx) ⟨.nil, (fun a m => by cases m), (fun a m => by cases m), (fun a m => by cases m)⟩⟩
          refine St.target hg s3 o.l e6 fun σ4 s4 => ?_
          refine hb P e' σ4 ρ4 vs os H3 _ o.r s4 ?_
          cases e7 : body ρ4 with
          | next ρ5 => simp only [e7] at g2; exact fun σ5 H5 s5 => ⟨hlt, ρ5, s5, g2⟩
          | cont ρ5 => simp only [e7] at g2; exact fun σ5 H5 s5 => ⟨hlt, ρ5, s5, g2⟩
          | brk ρ5 => simp only [e7] at g2; exact fun σ5 H5 s5 => g2 σ5 H5 (s5.trans f0)
          | ret o5 ρ5 => simp only [e7] at g2; exact fun σ5 v5 H5 s5 => g2 σ5 v5 H5 (s5.trans f0)
          | exc x5 ρ5 => simp only [e7] at g2; exact fun σ5 c d H5 s5 => g2 σ5 c d H5 (s5.trans f0)
          | bad => simp only [e7] at g2; exact g2
    · have ei : i = ds.length := by omega
      subst ei
      obtain ⟨F2, T1, T2, s2⟩ := s2
      refine .inl ⟨W.stops F2 H2 s2.fr.f0 s2.fr.fle, ?_⟩
      rw [List.drop_length] at g2
      exact g2 σ2 H2 (St.trans f0 ⟨F2, T1, T2, s2⟩)
/-! while -/
def whileN (c : M Bool) (body : MS) : Nat → List O → RS
  | 0, _ => .bad
  | n + 1, ρ => match c ρ with
    | .ok false ρ1 => .next ρ1
    | .ok true ρ1 => match body ρ1 with
      | .next ρ2 => whileN c body n ρ2
      | .cont ρ2 => whileN c body n ρ2
      | .brk ρ2 => .next ρ2
      | .ret o ρ2 => .ret o ρ2
      | .exc x ρ2 => .exc x ρ2
      | .bad => .bad
    | .exc x ρ1 => .exc x ρ1
    | .bad => .bad
theorem whileN_succ {c : M Bool} {body : MS} : ∀ {n : Nat} {ρ : List O}, whileN c body n ρ ≠ .bad → whileN c body (n + 1) ρ = whileN c body n ρ
  | 0, _, h => (h rfl).elim
  | n + 1, ρ, h => by
    unfold whileN at h
    rw [whileN]
    conv => rhs; rw [whileN]
    cases e1 : c ρ with
    | bad => rfl
    | exc x ρ1 => rfl
    | ok b ρ1 =>
      rw [e1] at h
      cases b with
      | false => rfl
      | true =>
        simp only at h ⊢
        cases e2 : body ρ1 with
        | next ρ2 => rw [e2] at h; exact whileN_succ h
        | cont ρ2 => rw [e2] at h; exact whileN_succ h
        | _ => rfl
theorem whileN_le {c : M Bool} {body : MS} {n m : Nat} {ρ : List O} (h : whileN c body n ρ ≠ .bad) (l : n ≤ m) : whileN c body m ρ = whileN c body n ρ := by
  induction l with
  | refl => rfl
  | step l ih => rw [whileN_succ (by rw [ih]; exact h), ih]
open Classical in
noncomputable def sWhile (c : M Bool) (body : MS) : MS := fun ρ => if h : ∃ n, whileN c body n ρ ≠ .bad then whileN c body (choose h) ρ else .bad
theorem sWhile_of {c : M Bool} {body : MS} {n : Nat} {ρ : List O} (h : whileN c body n ρ ≠ .bad) : sWhile c body ρ = whileN c body n ρ := by
  have h' : ∃ n, whileN c body n ρ ≠ .bad := ⟨n, h⟩
  unfold sWhile
  rw [dif_pos h']
  have hc := Classical.choose_spec h'
  rcases Nat.le_total n (Classical.choose h') with l | l
  · exact whileN_le h l
  · exact (whileN_le hc l).symm
theorem sWhile_is {c : M Bool} {body : MS} (ρ : List O) : ∃ n, sWhile c body ρ = whileN c body n ρ := by
  by_cases h : ∃ n, whileN c body n ρ ≠ .bad
  · exact ⟨_, sWhile_of h.choose_spec⟩
  · refine ⟨0, ?_⟩
    unfold sWhile
    rw [dif_neg h]
    rfl
def whileStep (c : M Bool) (body : MS) (k : MS) : MS := fun ρ => match c ρ with
  | .ok false ρ1 => .next ρ1
  | .ok true ρ1 => match body ρ1 with
    | .next ρ2 => k ρ2
    | .cont ρ2 => k ρ2
    | .brk ρ2 => .next ρ2
    | .ret o ρ2 => .ret o ρ2
    | .exc x ρ2 => .exc x ρ2
    | .bad => .bad
  | .exc x ρ1 => .exc x ρ1
  | .bad => .bad
theorem whileN_step {c : M Bool} {body : MS} {n : Nat} {ρ : List O} : whileN c body (n + 1) ρ = whileStep c body (whileN c body n) ρ := by
  rw [whileN, whileStep]
theorem sWhile_eq {c : M Bool} {body : MS} (ρ : List O) : sWhile c body ρ = whileStep c body (sWhile c body) ρ := by
  have key : ∀ n, whileN c body (n + 1) ρ ≠ .bad → whileN c body (n + 1) ρ = whileStep c body (sWhile c body) ρ := by
    intro n h
    rw [whileN_step] at h ⊢
    unfold whileStep at h ⊢
    cases e1 : c ρ with
    | bad => rfl
    | exc x ρ1 => rfl
    | ok b ρ1 =>
      rw [e1] at h
      cases b with
      | false => rfl
      | true =>
        simp only at h ⊢
        cases e2 : body ρ1 with
        | next ρ2 => rw [e2] at h; exact (sWhile_of h).symm
        | cont ρ2 => rw [e2] at h; exact (sWhile_of h).symm
        | _ => rfl
  by_cases h : ∃ n, whileN c body n ρ ≠ .bad
  · obtain ⟨n, h⟩ := h
    have h1 : whileN c body (n + 1) ρ ≠ .bad := by rw [whileN_succ h]; exact h
    rw [sWhile_of h1]
    exact key n h1
  · have hb : sWhile c body ρ = .bad := by unfold sWhile; rw [dif_neg h]
    rw [hb]
    refine Classical.byContradiction fun hn => h ?_
    -- the step ends well: so do finitely many
    unfold whileStep at hn
    cases e1 : c ρ with
    | bad => rw [e1] at hn; exact (hn rfl).elim
    | exc x ρ1 => exact ⟨1, by rw [whileN, e1]; simp⟩
    | ok b ρ1 =>
      rw [e1] at hn
      cases b with
      | false => exact ⟨1, by rw [whileN, e1]; simp⟩
      | true =>
        simp only at hn
        cases e2 : body ρ1 with
        | next ρ2 =>
          rw [e2] at hn
          obtain ⟨n, en⟩ := sWhile_is (c := c) (body := body) ρ2
          refine ⟨n + 1, ?_⟩
          rw [whileN, e1]
          simp only [e2]
          rw [← en]
          exact fun z => hn z.symm
        | cont ρ2 =>
          rw [e2] at hn
          obtain ⟨n, en⟩ := sWhile_is (c := c) (body := body) ρ2
          refine ⟨n + 1, ?_⟩
          rw [whileN, e1]
          simp only [e2]
          rw [← en]
          exact fun z => hn z.symm
        | brk ρ2 => exact ⟨1, by rw [whileN, e1]; simp [e2]⟩
        | ret o ρ2 => exact ⟨1, by rw [whileN, e1]; simp [e2]⟩
        | exc x ρ2 => exact ⟨1, by rw [whileN, e1]; simp [e2]⟩
        | bad => rw [e2] at hn; exact (hn rfl).elim
theorem tsm_while {c : M Bool} {tb : TS} {body : MS} (hc : TTm k E tc c) (hb : TSm k E A tb body) : TSm k E A (tWhile tc tb) (sWhile c body) := by
  intro P e σ ρ vs os H D o s g
  obtain ⟨n, en⟩ := sWhile_is (c := c) (body := body) ρ
  rw [en] at g
  refine ⟨fun n σ H => ∃ ρ, St k P e σ ρ vs os H ∧ SOk k P e vs os E D (whileN c body n ρ), ⟨n, ρ, s, g⟩, ?_⟩
  rintro n σ2 H2 ⟨ρ2, s2, g2⟩
  cases n with
  | zero => exact g2.elim
  | succ n =>
    refine hc P e σ2 ρ2 vs os H2 _ s2 ?_
    rw [whileN] at g2
    cases e1 : c ρ2 with
    | bad => rw [e1] at g2; exact g2
    | exc x ρ3 => rw [e1] at g2; exact g2.exc
    | ok b ρ3 =>
      rw [e1] at g2
      intro H3 s3
      cases b with
      | false => rw [if_neg (by decide)]; exact g2 σ2 H3 s3
      | true =>
        rw [if_pos rfl]
        simp only at g2
        refine ⟨fun σ' H' => ∃ ρ, St k P e σ' ρ vs os H' ∧ SOk k P e vs os E D (whileN c body n ρ), fun σ' H' z => ⟨n, Nat.lt_succ_self n, z⟩, ?_⟩
        refine hb P e σ2 ρ3 vs os H3 _ o s3 ?_
        cases e7 : body ρ3 with
        | next ρ5 => simp only [e7] at g2; exact fun σ5 H5 s5 => ⟨ρ5, s5, g2⟩
        | cont ρ5 => simp only [e7] at g2; exact fun σ5 H5 s5 => ⟨ρ5, s5, g2⟩
        | brk ρ5 => simp only [e7] at g2; exact fun σ5 H5 s5 => g2 σ5 H5 s5
        | ret o5 ρ5 => simp only [e7] at g2; exact fun σ5 v5 H5 s5 => g2 σ5 v5 H5 s5
        | exc x5 ρ5 => simp only [e7] at g2; exact fun σ5 c d H5 s5 => g2 σ5 c d H5 s5
        | bad => simp only [e7] at g2; exact g2
end
end FM
namespace FM
open PySem L2 PyProof.Rows
section
variable {k : Kc} {E : XK} {te : TE} {m m1 m2 : M O} {t u : TS} {a b : MS} {A B : List Nat} {tc : TT}
/-! ### a slot's own thing: taken out, frozen where it lies -/
def mMove (i : Nat) : M O := fun ρ => match qVar i ρ with
  | some o => .ok o (ρ.set i .dead)
  | none => .bad
theorem tem_move {i : Nat} : TEm k E (tVar i) (mMove i) := by
  intro P e σ ρ vs os H Q s g
  unfold mMove at g
  cases e0 : qVar i ρ with
  | none => rw [e0] at g; exact g.elim
  | some o =>
    rw [e0] at g
    obtain ⟨F, S1, S2, env, tmp, fr, pin⟩ := s
    obtain ⟨g1, g2⟩ := qVar_some e0
    obtain ⟨v, T, R, a1, a2, a3, a4⟩ := env.take g1 g2
    refine ⟨v, a1, g v H ⟨F, R, T ++ S2, a3, .cons a2 tmp, Sbp.fr fr (.of_count fun a => ?_), pin⟩⟩
    have c2 := a4.count_eq a
    simp only [List.count_append] at c2 ⊢
    omega
def frzO (i : Nat) (ρ : List O) : List O := match qVar i ρ with
  | some o => match toPD o with
    | some d => ρ.set i (.fz d)
    | none => ρ
  | none => ρ
theorem St.frzS {P : List (Nat × V)} {e : Ent} {σ : L2.St} {ρ : List O} {vs : List V} {os : List O} {H : Hp} {i : Nat} (s : St k P e σ ρ vs os H) : St k P e σ (frzO i ρ) vs os H := by
  unfold frzO
  cases e0 : qVar i ρ with
  | none => exact s
  | some o =>
    simp only
    cases e1 : toPD o with
    | none => exact s
    | some d =>
      simp only
      obtain ⟨F, S1, S2, env, tmp, fr, pin⟩ := s
      obtain ⟨g1, g2⟩ := qVar_some e0
      obtain ⟨v, T, R, a1, a2, a3, a4⟩ := env.take g1 g2
      have s2 : St k P e σ (ρ.set i .dead) (v :: vs) (.fz d :: os) H := by
        refine StW.frz ⟨a3, .cons a2 tmp, Sbp.fr fr (.of_count fun a => ?_), pin⟩ e1
        have c2 := a4.count_eq a
        simp only [List.count_append] at c2 ⊢
        omega
      obtain ⟨F2, U1, U2, s2⟩ := s2
      obtain ⟨r, s3⟩ := s2.top
      obtain ⟨U, m, q⟩ := s3.env.put (i := i) a1 (Own.fz r)
      rw [List.set_set] at q
      exact ⟨F2, U, U2, q, s3.tmp, Sbp.fr s3.fr (.of_count fun a => by
        have := m.count a
        simp only [List.nil_append, List.count_append] at this ⊢
        omega), s3.pin⟩
def mGz (i : Nat) (m : M O) : M O := fun ρ => m (frzO i ρ)
def sGz (i : Nat) (m : MS) : MS := fun ρ => m (frzO i ρ)
theorem tem_gz {i : Nat} (h : TEm k E te m) : TEm k E te (mGz i m) := fun P e σ ρ vs os H Q s g => h P e σ _ vs os H Q s.frzS g
theorem tsm_gz {i : Nat} (h : TSm k E A t a) : TSm k E A t (sGz i a) := fun P e σ ρ vs os H D o s g => h P e σ _ vs os H D o s.frzS g
/-! ### displays, calls of builtins -/
theorem Owns.fzs {F H : Hp} : ∀ {vs : List V} {os : List O} {S : List Addr} {ds : List PD}, Owns k F H vs os S → FM.fzs os = some ds → Reps k.K F vs ds ∧ S = []
  | _, _, _, _, .nil, e => by
    have e' := Option.some.inj e
    subst e'
    exact ⟨.nil, rfl⟩
  | _, _, _, _, .cons (os := os) (T := T) w r, e => by
    cases w with
    | fz w =>
      obtain ⟨z, e1, e2⟩ := Option.map_eq_some_iff.mp (show (FM.fzs os).map _ = some _ from e)
      subst e2
      obtain ⟨h1, h2⟩ := Owns.fzs r e1
      exact ⟨.cons w h1, by rw [h2]; rfl⟩
    | _ => cases e
theorem St.splitFz {P : List (Nat × V)} {e : Ent} {σ : L2.St} {ρ : List O} {ws vs : List V} {xs os : List O} {F H : Hp} {S1 S2 : List Addr} {ds : List PD} (s : StW k P e σ ρ (ws ++ vs) (xs ++ os) F H S1 S2) (hl : ws.length = xs.length) (e1 : fzs xs = some ds) : Reps k.K F ws ds ∧ StW k P e σ ρ vs os F H S1 S2 := by
  obtain ⟨env, tmp, fr, pin⟩ := s
  obtain ⟨A, B, eS, o1, o2⟩ := Owns.split hl tmp
  obtain ⟨r, eA⟩ := o1.fzs e1
  subst eS eA
  exact ⟨r, ⟨env, o2, fr, pin⟩⟩
/-- what is an object of one's own -/
def refO : O → Bool
  | .fz _ => false
  | .dead => false
  | _ => true
theorem Own.refO {k : Kc} {F H : Hp} {v : V} {o : O} {S : List Addr} (w : Own k F H v o S) (h : FM.refO o = true) : ∃ a, v = .ref a := by
  cases w with
  | fz _ => cases h
  | dead => cases h
  | _ => exact ⟨_, rfl⟩
theorem Owns.nogr {k : Kc} {F H : Hp} : ∀ {vs : List V} {os : List O} {S : List Addr}, Owns k F H vs os S → os.any FM.refO = true → ∀ z : List Key, vs ≠ z.map kV
  | _, _, _, .nil, h, _, _ => by cases h
  | _, _, _, .cons w r, h, z, e => by
    cases z with
    | nil => cases e
    | cons x z =>
      rw [List.map_cons] at e
      injection e with e1 e2
      rw [List.any_cons, Bool.or_eq_true] at h
      rcases h with h | h
      · obtain ⟨a, ea⟩ := w.refO h
        rw [ea] at e1
        cases x <;> cases e1
      · exact Owns.nogr r h z e2
def mTup (m : M (List O)) : M O := fun ρ => match m ρ with
  | .ok xs ρ1 => if xs.length ≤ sizeLine then match fzs xs with
      | some ds => .ok (.fz (.tuple ds)) ρ1
      | none => if xs.any refO then .ok (.ntp xs) ρ1 else .bad
    else .bad
  | .exc x ρ1 => .exc x ρ1
  | .bad => .bad
def mLst (m : M (List O)) : M O := fun ρ => match m ρ with
  | .ok xs ρ1 => if xs.length ≤ sizeLine then match fzs xs with
      | some ds => .ok (.lst ds) ρ1
      | none => .ok (.nst xs) ρ1
    else .bad
  | .exc x ρ1 => .exc x ρ1
  | .bad => .bad
theorem StW.pushN {P : List (Nat × V)} {e : Ent} {σ : L2.St} {ρ : List O} {vs : List V} {os : List O} {F H : Hp} {S1 S2 : List Addr} {p : Addr} {ob : HO} {v : V} {o : O} (s : StW k P e σ ρ vs os F H S1 S2) (hp : H p = none) (hn : ∀ o u, ob ≠ .frz o u) (w : Own k F (upd H p ob) v o [p]) : St k P e σ ρ (v :: vs) (o :: os) (upd H p ob) := by
  refine ⟨F, S1, [p] ++ S2, s.push (Xt.own s.fr.fle hp) w ⟨List.nodup_cons.mpr ⟨List.not_mem_nil, .nil⟩, (fun a m => ?_), (fun a m => ?_), (fun a m o u z => ?_)⟩⟩
  · rw [List.mem_singleton.mp m]; exact hp
  · rw [List.mem_singleton.mp m]; exact fle_none s.fr.fle hp
  · rw [List.mem_singleton.mp m, upd_same] at z
    exact hn o u (Option.some.inj z)
theorem StW.nest {P : List (Nat × V)} {e : Ent} {σ : L2.St} {ρ : List O} {ws vs : List V} {xs os : List O} {F H : Hp} {S1 S2 : List Addr} {p : Addr} {ob : HO} {o : O} (s : StW k P e σ ρ (ws ++ vs) (xs ++ os) F H S1 S2) (hl : ws.length = xs.length) (hp : H p = none) (hn : ∀ o u, ob ≠ .frz o u) (hgn : ¬ gnd ob)
    (w : ∀ S, Owns k F (upd H p ob) ws xs S → Own k F (upd H p ob) (.ref p) o (p :: S)) : St k P e σ ρ (.ref p :: vs) (o :: os) (upd H p ob) := by
  have x := Xt.own (o := ob) s.fr.fle hp
  have s2 := s.xt x
  obtain ⟨env, tmp, fr, pin⟩ := s2
  obtain ⟨A, B, eS, o1, o2⟩ := Owns.split hl tmp
  subst eS
  have f2 : Fr e F (upd H p ob) ([p] ++ (S1 ++ (A ++ B))) := s.fr.fresh x ⟨List.nodup_cons.mpr ⟨List.not_mem_nil, .nil⟩, (fun a m => by rw [List.mem_singleton.mp m]; exact hp), (fun a m => by rw [List.mem_singleton.mp m]; exact fle_none s.fr.fle hp), (fun a m o u z => by
    rw [List.mem_singleton.mp m, upd_same] at z
    exact hn o u (Option.some.inj z))⟩ (fun a m => by
    rw [List.mem_singleton.mp m]
    refine ⟨by rw [upd_same]; simp, fun u g z => ?_⟩
    rw [upd_same] at z
    cases z
    exact hgn g)
  refine ⟨F, S1, (p :: A) ++ B, env, .cons (w A o1) o2, Sbp.fr f2 (.of_count fun a => ?_), pin⟩
  simp only [List.count_append, List.count_cons, List.count_nil]
  omega
theorem tem_tup {ta : TA} {as : List (Option Nat)} {m : M (List O)} (h : TAm k E ta as m) : TEm k E (tTup ta) (mTup m) := by
  intro P e σ ρ vs os H Q s g
  refine h P e σ ρ vs os H _ s ?_
  unfold mTup at g
  cases e1 : m ρ with
  | exc x ρ1 => rw [e1] at g; exact g
  | bad => rw [e1] at g; exact g
  | ok xs ρ1 =>
    rw [e1] at g
    simp only at g
    intro ws H1 s1 hl _
    obtain ⟨F, S1, S2, s1⟩ := s1
    split at g
    · rename_i hz
      refine ⟨by rw [hl]; exact hz, fun p hp => ?_⟩
      split at g
      · rename_i ds e2
        obtain ⟨r, s2⟩ := St.splitFz s1 hl e2
        have x2 := Xt.new (o := .tup ws) s2.fr.fle hp
        exact g _ _ ⟨_, S1, [] ++ S2, s2.push x2 (.fz (.tup upd_same (r.sub x2.sub))) ⟨.nil, (fun a m => by cases m), (fun a m => by cases m), (fun a m => by cases m)⟩⟩
      · split at g
        · rename_i hr
          have ng : ∀ z : List Key, ws ≠ z.map kV := by
            obtain ⟨A, B, eS, o1, o2⟩ := Owns.split hl s1.tmp
            exact o1.nogr hr
          exact g _ _ (s1.nest hl hp (fun _ _ z => by cases z) (by rintro ⟨z, e⟩; cases e; exact ng z rfl) fun S w => .ntp upd_same ng w)
        · exact g.elim
    · exact g.elim
theorem tem_lst {ta : TA} {as : List (Option Nat)} {m : M (List O)} (h : TAm k E ta as m) : TEm k E (tLst ta) (mLst m) := by
  intro P e σ ρ vs os H Q s g
  refine h P e σ ρ vs os H _ s ?_
  unfold mLst at g
  cases e1 : m ρ with
  | exc x ρ1 => rw [e1] at g; exact g
  | bad => rw [e1] at g; exact g
  | ok xs ρ1 =>
    rw [e1] at g
    simp only at g
    intro ws H1 s1 hl _
    obtain ⟨F, S1, S2, s1⟩ := s1
    split at g
    · rename_i hz
      refine ⟨by rw [hl]; exact hz, fun p hp => ?_⟩
      split at g
      · rename_i ds e2
        obtain ⟨r, s2⟩ := St.splitFz s1 hl e2
        exact g _ _ (s2.pushN hp (fun _ _ z => by cases z) (.lst (.inl upd_same) r))
      · exact g _ _ (s1.nest hl hp (fun _ _ z => by cases z) (by rintro ⟨z, e⟩; cases e) fun S w => .nst (.inl upd_same) w)
    · exact g.elim
/-- a builtin that is handed frozen data -/
def mCb (f : List O → Option O) (m : M (List O)) : M O := fun ρ => match m ρ with
  | .ok xs ρ1 => match fzs xs with
    | some ds => match f (ds.map .fz) with
      | some (.fz d) => .ok (.fz d) ρ1
      | _ => .bad
    | none => .bad
  | .exc x ρ1 => .exc x ρ1
  | .bad => .bad
def mCbN (f : List O → Option O) (m : M (List O)) : M O := fun ρ => match m ρ with
  | .ok xs ρ1 => match fzs xs with
    | some ds => match f (ds.map .fz) with
      | some o => .ok o ρ1
      | _ => .bad
    | none => .bad
  | .exc x ρ1 => .exc x ρ1
  | .bad => .bad
theorem Reps.vws {F H : Hp} {S : List Addr} : ∀ {vs : List V} {ds : List PD}, Reps k.K F vs ds → Vws k F H S vs (ds.map .fz)
  | _, _, .nil => .nil
  | _, _, .cons h r => .cons (.fz h) (Reps.vws r)
theorem tem_cb {r : List V → Hp → VK → Prop} {f : List O → Option O} {ta : TA} {as : List (Option Nat)} {m : M (List O)} (h : TAm k E ta as m) (hr : CbV k r f) : TEm k E (tCB r ta) (mCb f m) := by
  intro P e σ ρ vs os H Q s g
  refine h P e σ ρ vs os H _ s ?_
  unfold mCb at g
  cases e1 : m ρ with
  | exc x ρ1 => rw [e1] at g; exact g
  | bad => rw [e1] at g; exact g
  | ok xs ρ1 =>
    rw [e1] at g
    simp only at g
    intro ws H1 s1 hl _
    obtain ⟨F, S1, S2, s1⟩ := s1
    split at g
    · rename_i ds e2
      obtain ⟨r1, s2⟩ := St.splitFz s1 hl e2
      split at g
      · rename_i d e3
        exact hr F H1 [] ws _ _ Q s2.fr.fle (fun a m => by cases m) (fun a m => by cases m) r1.vws e3 fun z F' H' x wz => g z H' ⟨F', S1, [] ++ S2, s2.push x (.fz wz.rep) ⟨.nil, (fun a m => by cases m), (fun a m => by cases m), (fun a m => by cases m)⟩⟩
      · exact g.elim
    · exact g.elim
theorem tem_cbN {r : List V → Hp → VK → Prop} {f : List O → Option O} {ta : TA} {as : List (Option Nat)} {m : M (List O)} (h : TAm k E ta as m) (hr : CbN k r f) : TEm k E (tCB r ta) (mCbN f m) := by
  intro P e σ ρ vs os H Q s g
  refine h P e σ ρ vs os H _ s ?_
  unfold mCbN at g
  cases e1 : m ρ with
  | exc x ρ1 => rw [e1] at g; exact g
  | bad => rw [e1] at g; exact g
  | ok xs ρ1 =>
    rw [e1] at g
    simp only at g
    intro ws H1 s1 hl _
    obtain ⟨F, S1, S2, s1⟩ := s1
    split at g
    · rename_i ds e2
      obtain ⟨r1, s2⟩ := St.splitFz s1 hl e2
      split at g
      · rename_i o e3
        exact hr F H1 [] ws _ _ Q s2.fr.fle (fun a m => by cases m) (fun a m => by cases m) r1.vws e3 fun z F' H' T x wz fr => g z H' ⟨F', S1, T ++ S2, s2.push x wz fr⟩
      · exact g.elim
    · exact g.elim
def mUn (f : O → Option O) (m : M O) : M O := fun ρ => match m ρ with
  | .ok (.fz d) ρ1 => match f (.fz d) with
    | some (.fz d') => .ok (.fz d') ρ1
    | _ => .bad
  | .ok _ _ => .bad
  | .exc x ρ1 => .exc x ρ1
  | .bad => .bad
theorem tem_un {r : V → Hp → VK → Prop} {f : O → Option O} (h : TEm k E te m) (hr : UnV k r f) : TEm k E (tUn r te) (mUn f m) := by
  intro P e σ ρ vs os H Q s g
  refine h P e σ ρ vs os H _ s ?_
  unfold mUn at g
  cases e1 : m ρ with
  | exc x ρ1 => rw [e1] at g; exact g
  | bad => rw [e1] at g; exact g
  | ok o ρ1 =>
    rw [e1] at g
    intro v H1 s1
    cases o with
    | fz d =>
      simp only at g
      obtain ⟨F, S1, S2, s1⟩ := s1
      obtain ⟨r1, s2⟩ := s1.top
      split at g
      · rename_i d' e3
        exact hr F H1 [] v _ _ Q s2.fr.fle (fun a m => by cases m) (fun a m => by cases m) (.fz r1) e3 fun z F' H' x wz => g z H' ⟨F', S1, [] ++ S2, s2.push x (.fz wz.rep) ⟨.nil, (fun a m => by cases m), (fun a m => by cases m), (fun a m => by cases m)⟩⟩
      · exact g.elim
    | _ => exact g.elim
/-! ### slices with effects -/
def TOm (k : Kc) (E : XK) (t : TO) (m : M (Option Int)) : Prop := ∀ (P : List (Nat × V)) (e : Ent) (σ : L2.St) (ρ : List O) (vs : List V) (os : List O) (H : Hp) (Q : Option Int → Hp → Prop), St k P e σ ρ vs os H →
  ROk (β := Unit) k P e σ vs os E (fun b ρ' => ∀ H', St k P e σ ρ' vs os H' → Q b H') (m ρ) → t σ H Q
def pNo : M (Option Int) := fun ρ => .ok none ρ
def pPart (m : M O) : M (Option Int) := fun ρ => match m ρ with
  | .ok (.fz (.int i)) ρ1 => .ok (some i) ρ1
  | .ok _ _ => .bad
  | .exc x ρ1 => .exc x ρ1
  | .bad => .bad
theorem tom_no : TOm k E tNoPart pNo := fun P e σ ρ vs os H Q s g => g H s
theorem tom_part (h : TEm k E te m) : TOm k E (tPart te) (pPart m) := by
  intro P e σ ρ vs os H Q s g
  refine h P e σ ρ vs os H _ s ?_
  unfold pPart at g
  cases e1 : m ρ with
  | exc x ρ1 => rw [e1] at g; exact g
  | bad => rw [e1] at g; exact g
  | ok o ρ1 =>
    rw [e1] at g
    intro v H1 s1
    split at g
    · rename_i i ρ2 e2
      cases e2
      obtain ⟨F, S1, S2, s1⟩ := s1
      obtain ⟨r1, s2⟩ := s1.top
      refine ⟨i, ?_, g H1 ⟨F, S1, S2, s2⟩⟩
      cases r1 with
      | int => rfl
      | dic _ _ e => cases e
      | dit _ _ e => cases e
    · exact g.elim
    · rename_i e2; cases e2
    · rename_i e2; cases e2
def mSl (m : M O) (ml mh : M (Option Int)) : M O := fun ρ => match m ρ with
  | .ok (.fz d) ρ1 => match ml ρ1 with
    | .ok lo ρ2 => match mh ρ2 with
      | .ok hi ρ3 => match oSl (.fz d) lo hi with
        | some (.fz d') => .ok (.fz d') ρ3
        | _ => .bad
      | .exc x ρ3 => .exc x ρ3
      | .bad => .bad
    | .exc x ρ2 => .exc x ρ2
    | .bad => .bad
  | .ok _ _ => .bad
  | .exc x ρ1 => .exc x ρ1
  | .bad => .bad
theorem tem_sl {tl th : TO} {ml mh : M (Option Int)} (h : TEm k E te m) (hl : TOm k E tl ml) (hh : TOm k E th mh) : TEm k E (tSl (rSlU k.K) te tl th) (mSl m ml mh) := by
  intro P e σ ρ vs os H Q s g
  refine h P e σ ρ vs os H _ s ?_
  unfold mSl at g
  cases e1 : m ρ with
  | exc x ρ1 => rw [e1] at g; exact g
  | bad => rw [e1] at g; exact g
  | ok o ρ1 =>
    rw [e1] at g
    intro v H1 s1
    cases o with
    | fz d =>
      simp only at g
      refine hl P e σ ρ1 _ _ H1 _ s1 ?_
      cases e2 : ml ρ1 with
      | exc x ρ2 => rw [e2] at g; exact fun c d H' sx => g c d H' sx.pop
      | bad => rw [e2] at g; exact g
      | ok lo ρ2 =>
        rw [e2] at g
        intro H2 s2
        simp only at g
        refine hh P e σ ρ2 _ _ H2 _ s2 ?_
        cases e3 : mh ρ2 with
        | exc x ρ3 => rw [e3] at g; exact fun c d H' sx => g c d H' sx.pop
        | bad => rw [e3] at g; exact g
        | ok hi ρ3 =>
          rw [e3] at g
          intro H3 s3
          simp only at g
          obtain ⟨F, S1, S2, s3⟩ := s3
          obtain ⟨r1, s4⟩ := s3.top
          split at g
          · rename_i d' e4
            -- the quiet slice at a state of one slot
            have key := tev_sl (k := k) (te := tVar 0) (tl := fun _ H Q => Q lo H) (th := fun _ H Q => Q hi H) (qa := qVar 0) (ql := fun _ => some lo) (qh := fun _ => some hi) tev_var (fun F H σ ρ S b Q q e h => by
              have e' := Option.some.inj e
              subst e'
              exact h F H (Xt.refl q.fle)) (fun F H σ ρ S b Q q e h => by
              have e' := Option.some.inj e
              subst e'
              exact h F H (Xt.refl q.fle))
            have := key F H3 [some v] [.fz d] [] (.fz d') Q ⟨s4.fr.fle, by
              have := Envs.cons (k := k) (F := F) (H := H3) (Own.fz r1) Envs.nil
              exact this, fun a m => by cases m⟩ (by
              unfold qSl qVar
              exact e4) fun z F' H' x wz => g z H' ⟨F', S1, [] ++ S2, s4.push x (.fz wz.rep) ⟨.nil, (fun a m => by cases m), (fun a m => by cases m), (fun a m => by cases m)⟩⟩
            obtain ⟨v', hv', this⟩ := this
            have ev : v = v' := Option.some.inj (Option.some.inj (by simpa using hv'))
            subst ev
            exact this
          · exact g.elim
    | _ => exact g.elim
/-! ### a slot's own list changes -/
/-- methods of a list of data -/
def LstM (k : Kc) (r : V → List V → Hp → VK → Prop) (f : List PD → List PD → Option (PD × List PD)) : Prop := ∀ (F H : Hp) (a : Addr) (vs : List V) (ds : List PD) (ws : List V) (xs : List PD) (d : PD) (ds' : List PD) (Q : VK),
  FLe F H → H a = some (.lst vs) → Reps k.K F vs ds → Reps k.K F ws xs → f ds xs = some (d, ds') → (∀ v vs', Reps k.K F vs' ds' → Rep k.K F v d → Q v (upd H a (.lst vs'))) → r (.ref a) ws H Q
def mMt (i : Nat) (f : List PD → List PD → Option (PD × List PD)) (m : M (List O)) : M O := fun ρ => match qVar i ρ with
  | some (.lst _) => match m ρ with
    | .ok xs ρ1 => match fzs xs with
      | some zs => match qVar i ρ1 with
        | some (.lst ds) => match f ds zs with
          | some r => .ok (.fz r.1) (ρ1.set i (.lst r.2))
          | none => .bad
        | _ => .bad
      | none => .bad
    | .exc x ρ1 => .exc x ρ1
    | .bad => .bad
  | _ => .bad
/-- the slot's list, its object, and a change of it -/
theorem StW.lstAt {P : List (Nat × V)} {e : Ent} {σ : L2.St} {ρ : List O} {vs : List V} {os : List O} {F H : Hp} {S1 S2 : List Addr} {i : Nat} {ds : List PD} (s : StW k P e σ ρ vs os F H S1 S2) (e0 : qVar i ρ = some (.lst ds)) :
    ∃ a ws, σ[i]? = some (some (.ref a)) ∧ H a = some (.lst ws) ∧ Reps k.K F ws ds ∧ ∀ ws' ds', Reps k.K F ws' ds' → ∃ U, StW k P e σ (ρ.set i (.lst ds')) vs os F (upd H a (.lst ws')) U S2 := by
  obtain ⟨env, tmp, fr, pin⟩ := s
  obtain ⟨g1, g2⟩ := qVar_some e0
  obtain ⟨v, T, R, a1, a2, a3, a4⟩ := env.take g1 g2
  cases a2 with
  | @lst a ws _ h r =>
    have fr' : Fr e F H (a :: (R ++ S2)) := Sbp.fr fr (.of_count fun b => by
      have c2 := a4.count_eq b
      simp only [List.count_append, List.count_cons, List.count_nil] at c2 ⊢
      omega)
    have ha : H a = some (.lst ws) := by
      rcases h with h | ⟨ob, h⟩
      · exact h
      · exact (fr'.nofz a List.mem_cons_self ob _ h).elim
    refine ⟨a, ws, a1, ha, r, fun ws' ds' r' => ?_⟩
    have nd := List.nodup_cons.mp fr'.nd
    have at_ : ∀ U : List Addr, (∀ b ∈ U, b ∈ R ++ S2) → At U H (upd H a (.lst ws')) := fun U m b mb u z => by
      rw [upd_ne (fun q => nd.1 (by rw [← q]; exact m b mb))]
      exact z
    have fw := fr'.write (a := a) (o := .lst ws') List.mem_cons_self (fun _ _ z => by cases z)
    have env3 := a3.mono (Same.refl F) (at_ R fun b m => List.mem_append_left _ m)
    have tmp3 := tmp.mono (Same.refl F) (at_ S2 fun b m => List.mem_append_right _ m)
    obtain ⟨U, mU, q⟩ := env3.put (i := i) a1 (Own.lst (k := k) (F := F) (.inl upd_same) r')
    rw [List.set_set] at q
    exact ⟨U, q, tmp3, Sbp.fr fw (.of_count fun b => by
      have := mU.count b
      simp only [List.count_append, List.count_cons, List.count_nil] at this ⊢
      omega), pin⟩
theorem tem_mt {i : Nat} {r : V → List V → Hp → VK → Prop} {f : List PD → List PD → Option (PD × List PD)} {ta : TA} {as : List (Option Nat)} {m : M (List O)} (h : TAm k E ta as m) (hr : LstM k r f) : TEm k E (tBM k.K "list" r (tVar i) ta) (mMt i f m) := by
  intro P e σ ρ vs os H Q s g
  unfold mMt at g
  split at g
  · rename_i ds0 e0
    obtain ⟨F0, T1, T2, s0⟩ := id s
    obtain ⟨a, ws, a1, a2, _, _⟩ := s0.lstAt e0
    refine ⟨.ref a, a1, .inl ⟨rfl, ws, .inl (.inl a2)⟩, h P e σ ρ vs os H _ s ?_⟩
    cases e1 : m ρ with
    | exc x ρ1 => rw [e1] at g; exact g
    | bad => rw [e1] at g; exact g
    | ok xs ρ1 =>
      rw [e1] at g
      simp only at g
      intro zs' H1 s1 hl _
      split at g
      · rename_i zs e2
        obtain ⟨F, S1, S2, s1⟩ := s1
        obtain ⟨r1, s2⟩ := St.splitFz s1 hl e2
        split at g
        · rename_i ds e3
          obtain ⟨a', ws2, b1, b2, b3, b4⟩ := s2.lstAt e3
          rw [a1] at b1
          cases b1
          cases e4 : f ds zs with
          | none => rw [e4] at g; exact g.elim
          | some z =>
            rw [e4] at g
            obtain ⟨d, ds'⟩ := z
            refine hr F H1 a ws2 ds zs' zs d ds' Q s2.fr.fle b2 b3 r1 e4 fun v vs' rv rd => ?_
            obtain ⟨U, s5⟩ := b4 vs' ds' rv
            exact g v _ ⟨F, U, [] ++ S2, s5.env, .cons (.fz rd) s5.tmp, s5.fr, s5.pin⟩
        · exact g.elim
      · exact g.elim
  · exact g.elim
def mMt0 (i : Nat) (f : List PD → List PD → Option (PD × List PD)) : M O := fun ρ => match qVar i ρ with
  | some (.lst ds) => match f ds [] with
    | some r => .ok (.fz r.1) (ρ.set i (.lst r.2))
    | none => .bad
  | _ => .bad
theorem tem_mt0 {i : Nat} {r : V → List V → Hp → VK → Prop} {f : List PD → List PD → Option (PD × List PD)} (hr : LstM k r f) : TEm k E (tBM0 k.K "list" r (tVar i)) (mMt0 i f) := by
  intro P e σ ρ vs os H Q s g
  unfold mMt0 at g
  split at g
  · rename_i ds e0
    obtain ⟨F, S1, S2, s0⟩ := s
    obtain ⟨a, ws, a1, a2, b3, b4⟩ := s0.lstAt e0
    refine ⟨.ref a, a1, .inl ⟨rfl, ws, .inl (.inl a2)⟩, ?_⟩
    cases e4 : f ds [] with
    | none => rw [e4] at g; exact g.elim
    | some z =>
      rw [e4] at g
      obtain ⟨d, ds'⟩ := z
      refine hr F H a ws ds [] [] d ds' Q s0.fr.fle a2 b3 .nil e4 fun v vs' rv rd => ?_
      obtain ⟨U, s5⟩ := b4 vs' ds' rv
      exact g v _ ⟨F, U, [] ++ S2, s5.env, .cons (.fz rd) s5.tmp, s5.fr, s5.pin⟩
  · exact g.elim
def fAppend : List PD → List PD → Option (PD × List PD) := fun ds xs => match xs with
  | [x] => if ds.length < sizeLine then some (.none, ds ++ [x]) else none
  | _ => none
theorem lm_append : LstM k rAppend fAppend := by
  intro F H a vs ds ws xs d ds' Q fl ha r rw' e g
  unfold fAppend at e
  split at e
  · rename_i x
    split at e
    · rename_i hz
      have e' := Option.some.inj e
      cases e'
      cases rw' with
      | cons w r2 =>
        cases r2
        exact ⟨a, vs, _, rfl, rfl, ha, by rw [r.length]; exact hz, g _ _ (r.append (.cons w .nil)) .non⟩
    · cases e
  · cases e
def fPop : List PD → List PD → Option (PD × List PD) := fun ds xs => match xs with
  | [] => match ds[ds.length - 1]? with
    | some d => some (d, ds.dropLast)
    | none => none
  | _ => none
theorem lm_pop : LstM k rPop fPop := by
  intro F H a vs ds ws xs d ds' Q fl ha r rw' e g
  unfold fPop at e
  split at e
  · split at e
    · rename_i y hy
      have e' := Option.some.inj e
      cases e'
      cases rw'
      obtain ⟨v, hv, rv⟩ := r.get hy
      exact ⟨a, vs, v, rfl, rfl, ha, by rw [r.length]; exact hv, g _ _ r.dropLast rv⟩
    · cases e
  · cases e
noncomputable def fPopAt : List PD → List PD → Option (PD × List PD) := fun ds xs => match xs with
  | [.int i] => if big62 i then match seqIndex? i ds.length with
      | some j => match ds[j]? with
        | some d => some (d, ds.eraseIdx j)
        | none => none
      | none => none
    else none
  | _ => none
theorem Reps.erase {K : Frag} {F : Hp} : ∀ {vs : List V} {ds : List PD} (n : Nat), Reps K F vs ds → Reps K F (vs.eraseIdx n) (ds.eraseIdx n)
  | _, _, _, .nil => .nil
  | _, _, 0, .cons h r => r
  | _, _, n + 1, .cons h r => .cons h (Reps.erase n r)
theorem lm_popAt : LstM k rPopAt fPopAt := by
  intro F H a vs ds ws xs d ds' Q fl ha r rw' e g
  unfold fPopAt at e
  split at e
  · rename_i i
    split at e
    · rename_i hb
      split at e
      · rename_i j hj
        split at e
        · rename_i y hy
          have e' := Option.some.inj e
          cases e'
          cases rw' with
          | cons w r2 =>
            cases r2
            have ew := (Vw.fz (k := k) (H := F) (S := []) w).int
            subst ew
            obtain ⟨v, hv, rv⟩ := r.get hy
            have b := big62_ok hb
            exact ⟨a, vs, i, j, v, rfl, rfl, ha, by omega, by omega, by rw [r.length]; exact hj, hv, g _ _ (r.erase j) rv⟩
        · cases e
      · cases e
    · cases e
  · cases e
def fRev : List PD → List PD → Option (PD × List PD) := fun ds xs => match xs with
  | [] => some (.none, ds.reverse)
  | _ => none
theorem lm_rev : LstM k rReverse fRev := by
  intro F H a vs ds ws xs d ds' Q fl ha r rw' e g
  unfold fRev at e
  split at e
  · have e' := Option.some.inj e
    cases e'
    cases rw'
    exact ⟨a, vs, rfl, rfl, ha, g _ _ r.reverse .non⟩
  · cases e
def fClear : List PD → List PD → Option (PD × List PD) := fun ds xs => match xs with
  | [] => some (.none, [])
  | _ => none
theorem lm_clear : LstM k rClear fClear := by
  intro F H a vs ds ws xs d ds' Q fl ha r rw' e g
  unfold fClear at e
  split at e
  · have e' := Option.some.inj e
    cases e'
    cases rw'
    exact ⟨a, vs, rfl, rfl, ha, g _ _ .nil .non⟩
  · cases e
/-! ### slot[i] = value -/
def fSetI (ds : List PD) (i d : PD) : Option (List PD) := match i with
  | .int j => (ixN ds.length j).map fun n => ds.set n d
  | _ => none
def sSetI (s : Nat) (qi : QE) (m : M O) : MS := fun ρ => match m ρ with
  | .ok (.fz d) ρ1 => match qVar s ρ1 with
    | some (.lst ds) => match qi ρ1 with
      | some (.fz i) => match fSetI ds i d with
        | some ds' => .next (ρ1.set s (.lst ds'))
        | none => .bad
      | _ => .bad
    | _ => .bad
  | .ok _ _ => .bad
  | .exc x ρ1 => .exc x ρ1
  | .bad => .bad
theorem tsm_setI {s : Nat} {ti : TE} {qi : QE} (h : TEm k E te m) (hi : TEv k ti qi) : TSm k E [] (tAsg te (gSub (tVar s) ti rSetL)) (sSetI s qi m) := by
  intro P e σ ρ vs os H D o st g
  refine h P e σ ρ vs os H _ st ?_
  unfold sSetI at g
  cases e1 : m ρ with
  | exc x ρ1 => rw [e1] at g; exact g.exc
  | bad => rw [e1] at g; exact g
  | ok z ρ1 =>
    rw [e1] at g
    intro v H1 s1
    cases z with
    | fz d =>
      simp only at g
      obtain ⟨F, S1, S2, s1⟩ := s1
      split at g
      · rename_i ds e2
        split at g
        · rename_i i e3
          obtain ⟨a, ws, a1, a2, a3, a4⟩ := s1.lstAt e2
          refine ⟨.ref a, a1, hi F H1 σ ρ1 S1 _ _ s1.qs e3 fun w F2 H2 x2 w2 => ?_⟩
          have s2 := s1.xt x2
          obtain ⟨a', ws2, b1, b2, b3, b4⟩ := s2.lstAt e2
          rw [a1] at b1
          cases b1
          have rd := s2.top.1
          cases e4 : fSetI ds i d with
          | none => rw [e4] at g; exact g.elim
          | some ds' =>
            rw [e4] at g
            unfold fSetI at e4
            split at e4
            · rename_i j
              obtain ⟨n, e5, e6⟩ := Option.map_eq_some_iff.mp e4
              subst e6
              have ew := w2.int
              subst ew
              refine ⟨a, ws2, j, n, rfl, rfl, b2, by rw [b3.length]; exact e5, ?_⟩
              obtain ⟨U, s5⟩ := b4 _ _ (b3.set rd n)
              obtain ⟨_, s6⟩ := s5.top
              exact g σ _ ⟨F2, U, S2, s6⟩
            · cases e4
        · exact g.elim
      · exact g.elim
    | _ => exact g.elim
end
end FM
namespace FM
open PySem PySem.Spec L2 PyProof.Rows
/-! ### room without a guard -/
structure RoomG (k : Nat) (A : Around) : Prop where
  rm : Room k A
  gd : A.guards = some []
theorem RoomG.mono {j k : Nat} {A : Around} (r : RoomG k A) (h : j ≤ k) : RoomG j A := ⟨r.rm.mono h, r.gd⟩
theorem RoomG.deeper {k : Nat} {A : Around} (r : RoomG (k + 1) A) (env : Env) : RoomG k (A.deeper env) := ⟨r.rm.deeper env, r.gd⟩
theorem make_guards {A : Around} {C : Addr} {us : List Value} {kw : List (Str × Value)} (h : A.guards = some []) : (A.under (.builtin "type.__call__" ⟨.ref C :: us, kw⟩)).guards = some [] := by
  first | exact h | (simp [Around.under, Code.weight, Code.isCreation, Code.isGuard, Code.isCaller, Code.frames, Code.isFrame, guardIds, pushGuards, Code.guards, h])
theorem RoomG.make {k : Nat} {A : Around} (r : RoomG (k + 1) A) (C : Addr) (us : List Value) (kw : List (Str × Value)) : RoomG k (A.under (.builtin "type.__call__" ⟨.ref C :: us, kw⟩)) := ⟨r.rm.make C us kw, make_guards r.gd⟩
theorem roomTop {k : Nat} (h : Room k callerA) : RoomG k callerA := ⟨h, rfl⟩
/-- a def's promise where no guard stands -/
structure FnG (P : Program) (w : World) (K : Frag) (mg : Str → Option Value) (base : Heap) (CX : CXT) (k : Nat) (f : Addr) (fd : FuncData) (ps : List Str) (sp : Sp) : Prop where
  len : ∀ vs H Q E, sp vs H Q E → vs.length = ps.length
  run : ∀ (A : Around) (outer : List Env) (s : Shared) (H : Hp) (args : Args) (us : List Value) (vs : List V) (Q : VK) (E : XK), RoomG k A → Env0 P w K mg base A outer s H → BindsTo s fd args (ps.zip us) → Vals vs us → sp vs H Q E →
    codeAny (model P w) A (.call (.ref f) args) (CR CX outer P w H s Q E) s
section
variable {P : Program} {w : World} {K : Frag} {mg : Str → Option Value} {base : Heap} {CX : CXT} {j k : Nat} {f : Addr} {fd : FuncData} {ps : List Str} {sp sp' : Sp}
theorem FnG.mono (F : FnG P w K mg base CX j f fd ps sp) (h : j ≤ k) : FnG P w K mg base CX k f fd ps sp := ⟨F.len, fun A outer s H args us vs Q E hr => F.run A outer s H args us vs Q E (hr.mono h)⟩
theorem FnG.imp (F : FnG P w K mg base CX k f fd ps sp) (h : ∀ vs H Q E, sp' vs H Q E → sp vs H Q E) : FnG P w K mg base CX k f fd ps sp' :=
  ⟨fun vs H Q E q => F.len vs H Q E (h _ _ _ _ q), fun A outer s H args us vs Q E hr he hb hv hs => F.run A outer s H args us vs Q E hr he hb hv (h _ _ _ _ hs)⟩
end
section
variable {X : Cx} {CX : CXT} {k : Nat} {f C : Addr} {fd : FuncData} {ps : List Str} {sp : Sp} {dvs : List V} {ds : List Value} {E : XK} {x m : Str} {p pos apos : Pos} {e o : Expr} {es : List Expr} {ta : TE} {t : TA}
theorem run_fnG {pins : List (Addr × Obj)} {σ : L2.St} {H : Hp} {s : Shared} {Q : VK} {us : List Value} {vs : List V} (F : FnG X.prog X.w X.K X.mg X.base CX k f fd ps sp) (hr : RoomG k X.A) (hb : Binds X.K fd ps ds) (hd : Vals dvs ds) (hx : Passes CX X E)
    (I : Inv X pins σ H s) (r : Vals vs us) (h : sp (vs ++ dvs) H Q E) : wpAny (model X.prog X.w) X.A (call (.ref f) us) (EP X pins σ Q) X.xe s := by
  have r2 := r.append hd
  refine wpAny_call (codeAny_mono (F.run X.A X.stack s H ⟨us, []⟩ (us ++ ds) (vs ++ dvs) Q E hr I.env0 (hb s us I.kIn (by rw [← r2.length]; exact F.len _ _ _ _ h)) r2 h) fun r s' hq => ?_)
  cases r with
  | error e => exact hx pins σ H s e s' I hq
  | ok fl =>
    cases fl with
    | ret u => exact I.after hq
    | _ => exact hq.elim
theorem pe_callG (F : FnG X.prog X.w X.K X.mg X.base CX k f fd ps sp) (hr : RoomG k X.A) (hg : Gl X x) (hm : X.mg x = some (.ref f)) (hk : PySem.W.keepIn X.K (.ref f) = true) (hb : Binds X.K fd ps ds) (hd : Vals dvs ds) (hx : Passes CX X E)
    (ha : PA X (e :: es) t) (hdb : (x == ("__debug__" : Str)) = false := by decide) (he : starEach (e :: es) X.env = (false, eval e X.env) :: starEach es X.env := by rfl) (hpl : (backTo pos (starEach es X.env)).any (·.1) = false := by rfl) :
    PE X (.Call (.Name x p) (e :: es) [] pos) (tCall sp dvs E t) := by
  refine ⟨fun pins s σ H Q I h => wpAny_Call_Name_kw (ld_glob I hg hm ?_ hdb)⟩
  exact PySem.W.callWith_K (h₀ := X.base) I.ok.mod.kin hk (thn (ha.run pos pins s σ H _ I h) fun us s1 ⟨vs, H1, I1, r, q⟩ => ⟨I1.kIn, run_fnG F hr hb hd hx I1 r q⟩) he hpl
theorem pe_call0G (F : FnG X.prog X.w X.K X.mg X.base CX k f fd ps sp) (hr : RoomG k X.A) (hg : Gl X x) (hm : X.mg x = some (.ref f)) (hk : PySem.W.keepIn X.K (.ref f) = true) (hb : Binds X.K fd ps ds) (hd : Vals dvs ds) (hx : Passes CX X E)
    (hdb : (x == ("__debug__" : Str)) = false := by decide) : PE X (.Call (.Name x p) [] [] pos) (tCall sp dvs E tNil) := by
  refine ⟨fun pins s σ H Q I h => wpAny_Call_Name_kw (ld_glob I hg hm ?_ hdb)⟩
  exact PySem.W.callWith_K0 I.kIn hk (run_fnG (us := []) F hr hb hd hx I .nil h)
theorem pe_methG {pl : Sem Bool} (he : PE X o ta) (c : Cls X.K C) (hm : Meth X.K C m f) (F : FnG X.prog X.w X.K X.mg X.base CX k f fd ps sp) (hr : RoomG k X.A) (hb : Binds X.K fd ps ds) (hd : Vals dvs ds) (hx : Passes CX X E) (ha : PA X (e :: es) t)
    (hst : starEach (e :: es) X.env = (false, eval e X.env) :: starEach es X.env := by rfl) (hpl : (backTo pos (starEach es X.env)).any (·.1) = false := by rfl)
    (ht : eval (.Call (.Attribute o m apos) (e :: es) [] pos) X.env = (do
      let ov ← eval o X.env
      standAt apos.atName
      let (f, first) ← holding [ov] (getMethod ov m pl)
      callWith pos f first (backTo pos (starEach (e :: es) X.env)) (backToKw pos (keywordEach [] X.env))) := by rfl) :
    PE X (.Call (.Attribute o m apos) (e :: es) [] pos) (tMeth C m sp dvs E ta t) := by
  refine ⟨fun pins s σ H Q I h => PySem.W.methodCall_KW (pl := pl) (thn (he.run pins s σ H _ I h) fun u s1 ⟨x, H1, I1, rx, a, dx, fs, ex, ea, l, q⟩ => ?_) ht⟩
  subst ex
  obtain rfl : u = Value.ref a := rx
  refine getmeth_ok I1 ea c hm l ?_
  exact PySem.W.callWith_K (first := [.ref a]) (h₀ := X.base) I.ok.mod.kin hm.kp (thn (ha.run pos pins s1 σ H1 _ I1 q) fun us s2 ⟨vs, H2, I2, r, q2⟩ => ⟨I2.kIn, run_fnG (us := .ref a :: us) (vs := .ref a :: vs) F hr hb hd hx I2 (.cons rfl r) q2⟩) hst hpl
theorem pe_meth0G {pl : Sem Bool} (he : PE X o ta) (c : Cls X.K C) (hm : Meth X.K C m f) (F : FnG X.prog X.w X.K X.mg X.base CX k f fd ps sp) (hr : RoomG k X.A) (hb : Binds X.K fd ps ds) (hd : Vals dvs ds) (hx : Passes CX X E)
    (ht : eval (.Call (.Attribute o m apos) [] [] pos) X.env = (do
      let ov ← eval o X.env
      standAt apos.atName
      let (f, first) ← holding [ov] (getMethod ov m pl)
      callWith pos f first (backTo pos (starEach [] X.env)) (backToKw pos (keywordEach [] X.env))) := by rfl) :
    PE X (.Call (.Attribute o m apos) [] [] pos) (tMeth C m sp dvs E ta tNil) := by
  refine ⟨fun pins s σ H Q I h => PySem.W.methodCall_KW (pl := pl) (thn (he.run pins s σ H _ I h) fun u s1 ⟨x, H1, I1, rx, a, dx, fs, ex, ea, l, q⟩ => ?_) ht⟩
  subst ex
  obtain rfl : u = Value.ref a := rx
  exact getmeth_ok I1 ea c hm l (PySem.W.callWith_K0 (first := [.ref a]) I1.kIn hm.kp (run_fnG (us := [.ref a]) (vs := [.ref a]) F hr hb hd hx I1 (.cons rfl .nil) q))
/-- a def of the text where no guard stands -/
theorem FunD.okG {P : Program} {w : World} {K : Frag} {mg : Str → Option Value} {base : Heap} {qual : Str} {params : Arguments} {body : List Stmt} {scope : Scope} {kws : List (Str × V)} {N : List Str} (F : FunD K x qual params body scope dvs kws f fd) (S : FnScope N ps scope) (len : ∀ vs H Q E, sp vs H Q E → vs.length = ps.length)
    (hbody : ∀ (cdv : Value) (A : Around) (outer : List Env) (s : Shared) (H : Hp) (vs : List V) (Q : VK) (E : XK), RoomG k (A.deeper (envOfC qual scope s.heap.objs.size f cdv)) → sp vs H Q E →
      ∃ t, PSs (cxOf CX P w K mg base N qual scope f cdv A outer s H E) body t ∧ t { nx := fun _ H' => Q .non H', rt := Q } (start N vs) H) : FnG P w K mg base CX (k + 1) f fd ps sp := by
  obtain ⟨oc, od, dV, kV, doc, pm, an, cdv, ct, osl, rfl, lk, hcd, _, _⟩ := F.ex
  refine ⟨len, fun A outer s H args us vs Q E hr e0 hb r hsp => ?_⟩
  have KX : K.In s.heap := e0.mod.kin.keeps fun b o e => (e0.bs b o e).1
  have kinds : ∀ y ∈ ps.zip us, scope.names.lookup y.1 = some .local ∨ (scope.names.lookup y.1 = some .cell ∧ ((cellsFrom (s.heap.objs.size + 1) scope.names []).lookup y.1).isSome = true) := fun y hy =>
    (S.par y.1 (List.of_mem_zip (a := y.1) (b := y.2) hy).1).imp id fun q => ⟨q, PySem.W.cellsFrom_some _ _ _ (.inl q)⟩
  refine codeAny_call_function hr.rm.depth (KX _ _ lk) rfl S.co S.gen rfl (PySem.W.codeRec_of KX hcd) (hb _ _ _ _ (wpAny_newFunctionEnv_cells S.kind kinds fun env he s1 x => ?_))
  subst he
  refine ⟨(e0.mod.nolimit.keeps fun b o e => (e0.bs b o e).1).keeps x.toInCall.keep, codeAny_func ?_⟩
  obtain ⟨t, ht, hq⟩ := hbody cdv A outer s H vs Q E (hr.deeper _) hsp
  refine wpAny_mono (ht.run [] s1 (start N vs) H _ (inv_start S hr.rm.hd e0 (len _ _ _ _ hsp) r x) hq) (fun fl s' hs => ?_) fun e s' hs => hs
  cases fl with
  | ret u =>
    obtain ⟨v, σ', H', J, rv, q⟩ := hs
    exact ⟨v, H', J.os, J.bare, J.base, J.hok, rv, q⟩
  | next =>
    obtain ⟨σ', H', J, q⟩ := hs
    exact ⟨.non, H', J.os, J.bare, J.base, J.hok, rfl, q⟩
  | brk =>
    obtain ⟨_, _, _, q⟩ := hs
    exact q.elim
  | cont =>
    obtain ⟨_, _, _, q⟩ := hs
    exact q.elim
/-- a def that lets nothing out -/
theorem FunD.okN {P : Program} {w : World} {K : Frag} {mg : Str → Option Value} {base : Heap} {qual : Str} {params : Arguments} {body : List Stmt} {scope : Scope} {kws : List (Str × V)} {N : List Str} (F : FunD K x qual params body scope dvs kws f fd) (S : FnScope N ps scope) (len : ∀ vs H Q E, sp vs H Q E → vs.length = ps.length)
    (hbody : ∀ (cdv : Value) (A : Around) (outer : List Env) (s : Shared) (H : Hp) (vs : List V) (Q : VK) (E : XK), RoomG k (A.deeper (envOfC qual scope s.heap.objs.size f cdv)) → sp vs H Q E →
      ∃ t, PSs (cxOf CX P w K mg base N qual scope f cdv A outer s H E).nox body t ∧ t { nx := fun _ H' => Q .non H', rt := Q } (start N vs) H) : FnG P w K mg base CX (k + 1) f fd ps sp :=
  FunD.okG F S len fun cdv A outer s H vs Q E hr h => let ⟨t, a, b⟩ := hbody cdv A outer s H vs Q E hr h; ⟨t, a.nox, b⟩
end
end FM
namespace FM
open PySem PySem.Spec L2 PyProof.Rows
/-! ### a def, from its body's mirror -/
def outsE : List Bool → List O → List O
  | [], _ => []
  | b :: bs, o :: ρ => (if b then o else .dead) :: outsE bs ρ
  | _ :: bs, [] => .dead :: outsE bs []
def deadN : Nat → List O
  | 0 => []
  | n + 1 => .dead :: deadN n
/-- more: the slots behind the parameters; io: which parameters are handed back -/
def defM (more : Nat) (io : List Bool) (m : MS) (os : List O) : FR := match m (os ++ deadN more) with
  | .ret o ρ => .ret o (outsE io ρ)
  | .next ρ => .ret (.fz .none) (outsE io ρ)
  | .exc x ρ => .exc x (outsE io ρ)
  | _ => .bad
/-- .. that lets nothing out -/
def defN (more : Nat) (io : List Bool) (m : MS) (os : List O) : FR := match m (os ++ deadN more) with
  | .ret o ρ => .ret o (outsE io ρ)
  | .next ρ => .ret (.fz .none) (outsE io ρ)
  | _ => .bad
def pinsOf : Nat → List Bool → List V → List (Nat × V)
  | i, true :: bs, w :: ws => (i, w) :: pinsOf (i + 1) bs ws
  | i, false :: bs, _ :: ws => pinsOf (i + 1) bs ws
  | _, _, _ => []
def offB (io : List Bool) (A : List Nat) : Bool := A.all fun j => !(io.getD j false)
theorem pins_io : ∀ {io : List Bool} {ws : List V} {i : Nat} {p : Nat × V}, p ∈ pinsOf i io ws → i ≤ p.1 ∧ io.getD (p.1 - i) false = true ∧ ws[p.1 - i]? = some p.2
  | [], _, _, _, m => by cases m
  | true :: bs, [], _, _, m => by cases m
  | false :: bs, [], _, _, m => by cases m
  | true :: bs, w :: ws, i, p, m => by
    rcases List.mem_cons.mp (show p ∈ (i, w) :: pinsOf (i + 1) bs ws from m) with e | m
    · subst e
      simp
    · obtain ⟨h1, h2, h3⟩ := pins_io m
      have e : p.1 - i = (p.1 - (i + 1)) + 1 := by omega
      refine ⟨by omega, ?_, ?_⟩
      · rw [e]; simpa using h2
      · rw [e]; simpa using h3
  | false :: bs, w :: ws, i, p, m => by
    obtain ⟨h1, h2, h3⟩ := pins_io (show p ∈ pinsOf (i + 1) bs ws from m)
    have e : p.1 - i = (p.1 - (i + 1)) + 1 := by omega
    refine ⟨by omega, ?_, ?_⟩
    · rw [e]; simpa using h2
    · rw [e]; simpa using h3
theorem pins_at : ∀ {io : List Bool} {ws : List V} {i j : Nat} {w : V}, io[j]? = some true → ws[j]? = some w → (i + j, w) ∈ pinsOf i io ws
  | [], _, _, _, _, e, _ => by simp at e
  | _ :: _, [], _, _, _, _, e => by simp at e
  | b :: bs, w :: ws, i, 0, w', e1, e2 => by
    have e1' : b = true := by simpa using e1
    have e2' : w = w' := by simpa using e2
    subst e1' e2'
    exact List.mem_cons_self
  | b :: bs, w :: ws, i, j + 1, w', e1, e2 => by
    have := pins_at (i := i + 1) (j := j) (io := bs) (ws := ws) (w := w') (by simpa using e1) (by simpa using e2)
    have e : i + (j + 1) = i + 1 + j := by omega
    rw [e]
    cases b with
    | true => exact List.mem_cons_of_mem _ this
    | false => exact this
theorem off_pins {io : List Bool} {A : List Nat} {ws : List V} (h : offB io A = true) : Off (pinsOf 0 io ws) A := fun p m z => by
  obtain ⟨_, h2, _⟩ := pins_io m
  have := List.all_eq_true.mp h p.1 z
  rw [Nat.sub_zero] at h2
  rw [h2] at this
  cases this
theorem Owns.envs {k : Kc} {F H : Hp} (n : Nat) : ∀ {ws : List V} {os : List O} {S : List Addr}, Owns k F H ws os S → Envs k F H (ws.map some ++ List.replicate n none) (os ++ deadN n) S
  | _, _, _, .nil => by
    show Envs k F H (List.replicate n none) (deadN n) []
    induction n with
    | zero => exact .nil
    | succ n ih =>
      rw [List.replicate_succ]
      exact .dead ih
  | _, _, _, .cons h r => .cons h (Owns.envs n r)
theorem Envs.outs {k : Kc} {F H : Hp} : ∀ {io : List Bool} {ws : List V} {σ : L2.St} {ρ : List O} {S : List Addr}, Envs k F H σ ρ S → io.length = ws.length → (∀ (j : Nat) (w : V), io[j]? = some true → ws[j]? = some w → σ[j]? = some (some w)) → ∃ T : List Addr, T.Sublist S ∧ Owns k F H ws (outsE io ρ) T
  | [], [], _, _, S, _, _, _ => ⟨[], List.nil_sublist S, .nil⟩
  | [], _ :: _, _, _, _, _, e, _ => by cases e
  | _ :: _, [], _, _, _, _, e, _ => by cases e
  | b :: bs, w :: ws, _, _, _, .nil, e, h => by
    obtain ⟨T, m, q⟩ := Envs.outs (io := bs) (ws := ws) (k := k) (F := F) (H := H) .nil (Nat.succ.inj e) fun j w' e1 e2 => by
      have := h (j + 1) w' (by simpa using e1) (by simpa using e2)
      simp at this
    exact ⟨[] ++ T, m, .cons .dead q⟩
  | b :: bs, w :: ws, _, _, _, .dead r, e, h => by
    obtain ⟨T, m, q⟩ := Envs.outs (io := bs) (ws := ws) r (Nat.succ.inj e) fun j w' e1 e2 => by
      have := h (j + 1) w' (by simpa using e1) (by simpa using e2)
      simpa using this
    refine ⟨[] ++ T, m, ?_⟩
    show Owns k F H (w :: ws) ((if b then .dead else .dead) :: outsE bs _) _
    rw [ite_self]
    exact .cons .dead q
  | b :: bs, w :: ws, _, _, _, .cons (v := v) (S := S1) hv r, e, h => by
    obtain ⟨T, m, q⟩ := Envs.outs (io := bs) (ws := ws) r (Nat.succ.inj e) fun j w' e1 e2 => by
      have := h (j + 1) w' (by simpa using e1) (by simpa using e2)
      simpa using this
    cases b with
    | true =>
      have e0 : v = w := by simpa using h 0 w rfl rfl
      subst e0
      exact ⟨S1 ++ T, List.Sublist.append (.refl _) m, .cons hv q⟩
    | false => exact ⟨[] ++ T, m.trans (List.sublist_append_right _ _), .cons .dead q⟩
/-- a body's run from the promise -/
theorem body_ok {k : Kc} {E : XK} {A : List Nat} {t : TS} {m : MS} {N ps : List Str} {io : List Bool} {more : Nat} {ws : List V} {H : Hp} {Q : VK} (ht : TSm k E A t m) (hA : offB io A = true) (hn : N.length = io.length + more) (h : spM k io.length (defM more io m) ws H Q E) : t { nx := fun _ H' => Q .non H', rt := Q } (start N ws) H := by
  obtain ⟨hl, F, os, S, ow, fr, g⟩ := h
  have es : L2.start N ws = ws.map some ++ List.replicate more none := by
    unfold L2.start
    rw [hl, hn, Nat.add_sub_cancel_left]
  rw [es]
  have hpin : ∀ p ∈ pinsOf 0 io ws, (ws.map some ++ List.replicate more none)[p.1]? = some (some p.2) := fun p m => by
    obtain ⟨_, _, h3⟩ := pins_io m
    rw [Nat.sub_zero] at h3
    have hlt : p.1 < ws.length := by
      rcases Nat.lt_or_ge p.1 ws.length with z | z
      · exact z
      · rw [List.getElem?_eq_none z] at h3; cases h3
    rw [List.getElem?_append_left (by simpa using hlt), List.getElem?_map, h3]
    rfl
  have s0 : St k (pinsOf 0 io ws) ⟨F, H, S⟩ (ws.map some ++ List.replicate more none) (os ++ deadN more) [] [] H := ⟨F, S, [], ow.envs more, .nil, by rw [List.append_nil]; exact fr, hpin⟩
  -- what is handed back
  have back : ∀ {σ : L2.St} {ρ : List O} {vs : List V} {xs : List O} {F' H' : Hp} {S1 S2 : List Addr}, StW k (pinsOf 0 io ws) ⟨F, H, S⟩ σ ρ vs xs F' H' S1 S2 → ∃ T, Owns k F' H' ws (outsE io ρ) T ∧ Fr ⟨F, H, S⟩ F' H' (S2 ++ T) := fun {σ ρ vs xs F' H' S1 S2} s => by
    obtain ⟨T, m, q⟩ := s.env.outs (io := io) (ws := ws) hl.symm fun j w e1 e2 => s.pin (j, w) (by
      have := pins_at (i := 0) e1 e2
      rwa [Nat.zero_add] at this)
    refine ⟨T, q, Sbp.fr s.fr (.of_count fun a => ?_)⟩
    have := m.count_le a
    simp only [List.count_append]
    omega
  refine ht _ _ _ _ [] [] H _ (off_pins hA) s0 ?_
  unfold defM at g
  cases e1 : m (os ++ deadN more) with
  | bad => rw [e1] at g; exact g
  | brk ρ => rw [e1] at g; exact g.elim
  | cont ρ => rw [e1] at g; exact g.elim
  | next ρ =>
    rw [e1] at g
    intro σ H' s
    obtain ⟨F', S1, S2, s⟩ := s
    obtain ⟨T, q, f⟩ := back s
    exact g .non H' ⟨F', [] ++ T, .cons (.fz .non) q, f.sub (List.sublist_append_right _ _)⟩
  | ret o ρ =>
    rw [e1] at g
    intro σ v H' s
    obtain ⟨F', S1, S2, s⟩ := s
    obtain ⟨T, q, f⟩ := back s
    cases s.tmp with
    | @cons _ _ _ _ T1 U w r =>
      cases r
      rw [List.append_nil] at f
      exact g v H' ⟨F', T1 ++ T, .cons w q, f⟩
  | exc x ρ =>
    rw [e1] at g
    intro σ c d H' s
    obtain ⟨F', S1, S2, s, xr⟩ := s
    obtain ⟨T, q, f⟩ := back s
    exact g c d H' ⟨F', T, q, f.sub (List.sublist_append_right _ _), xr⟩
theorem FOk.imp {k : Kc} {e : Ent} {ws : List V} {Q : VK} {E E' : XK} {more : Nat} {io : List Bool} {m : MS} {os : List O} (h : FOk k e ws Q E (defN more io m os)) : FOk k e ws Q E' (defM more io m os) := by
  unfold defN at h
  unfold defM
  cases e1 : m (os ++ deadN more) with
  | ret o ρ => rw [e1] at h; exact h
  | next ρ => rw [e1] at h; exact h
  | _ => rw [e1] at h; exact h.elim
theorem body_okN {k : Kc} {A : List Nat} {t : TS} {m : MS} {N ps : List Str} {io : List Bool} {more : Nat} {ws : List V} {H : Hp} {Q : VK} {E E' : XK} (ht : TSm k E' A t m) (hA : offB io A = true) (hn : N.length = io.length + more) (h : spM k io.length (defN more io m) ws H Q E) : t { nx := fun _ H' => Q .non H', rt := Q } (start N ws) H := by
  obtain ⟨hl, F, os, S, ow, fr, g⟩ := h
  exact body_ok (ps := ps) ht hA hn ⟨hl, F, os, S, ow, fr, g.imp⟩
/-! ### a def of the text -/
section
variable {P : Program} {w : World} {K : Frag} {mg : Str → Option Value} {base : Heap} {CX : CXT} {x qual : Str} {params : Arguments} {body : List Stmt} {scope : Scope} {dvs : List V} {kws : List (Str × V)} {f : Addr} {fd : FuncData} {N ps : List Str} {io : List Bool} {more k : Nat} {kc : Kc}
theorem def_okN {m : MS} (F : FunD K x qual params body scope dvs kws f fd) (S : FnScope N ps scope) (hp : io.length = ps.length) (hn : N.length = io.length + more)
    (hbody : ∀ (cdv : Value) (A : Around) (outer : List Env) (s : Shared) (H : Hp) (E : XK), RoomG k (A.deeper (envOfC qual scope s.heap.objs.size f cdv)) →
      ∃ t J, PSs (cxOf CX P w K mg base N qual scope f cdv A outer s H E).nox body t ∧ TSm kc E0 J t m ∧ offB io J = true) : FnG P w K mg base CX (k + 1) f fd ps (spM kc io.length (defN more io m)) := by
  refine FunD.okN F S (fun vs H Q E h => h.1.trans hp) fun cdv A outer s H vs Q E hr h => ?_
  obtain ⟨t, J, h1, h2, h3⟩ := hbody cdv A outer s H E hr
  exact ⟨t, h1, body_okN (ps := ps) h2 h3 hn h⟩
theorem FnG.quiet {n : Nat} {g : List O → FR} (F : FnG P w K mg base CX k f fd ps (spM kc n g)) : FnG P w K mg base CX k f fd ps (spQ kc n (qOf g)) := F.imp fun _ _ _ _ h => h.imp
end
/-! ### the law's end -/
theorem law_callG {P : Program} {w : World} {K : Frag} {mg mb : Str → Option Value} {CX : CXT} {k : Nat} {fa a : Addr} {fd : FuncData} {x : Str} {sp : Sp} {s₁ : Shared} {vs : List Value} {ns : List Int}
    (KX : K.In s₁.heap) (hns : s₁.heap.Ns mainGlobals mg) (hb : s₁.heap.Ns builtinsNs mb) (hbb : ∀ x : Str, x ≠ "__name__" → mb x = bootBuiltins x) (hlim : s₁.heap.NoLimit) (hg : s₁.gens = #[])
    (ha : s₁.heap.get? a = some { cls := .type "list", data := .seq vs.toArray }) (hi : IntsAre vs ns) (hl : ns.length ≤ sizeLine) (hr : Room k callerA)
    (F : ∀ base : Heap, K.In base → base.Ns mainGlobals mg → FnG P w K mg base CX k fa fd [x] sp) (hbind : ∀ (s : Shared) (u : Value), BindsTo s fd ⟨[u], []⟩ [(x, u)])
    (hsp : ∀ H : Hp, Only H → SqL K H a (ns.map V.int) → sp [.ref a] H (fun v _ => v = .bl true) fun _ _ _ => False)
    (hCX : ∀ H e s', CX [] H s₁ (fun _ _ _ => False) e s' → False) :
    codeAny (model P w) callerA (.call (.ref fa) ⟨[.ref a], []⟩) (fun r s' => r = .ok (.ret (.bool true)) ∧ OldK s₁.heap s'.heap ∧ s'.os = s₁.os ∧ AllBare s'.gens) s₁ := by
  have rv := vals_ints hi
  have lenV := hi.length
  -- H: nothing, or the script alone
  have core : ∀ H : Hp, Only H → SqL K H a (ns.map V.int) → HOk P w H s₁.heap → (∀ b, H b ≠ none → b = a ∧ K.lookup a = none) →
      codeAny (model P w) callerA (.call (.ref fa) ⟨[.ref a], []⟩) (fun r s' => r = .ok (.ret (.bool true)) ∧ OldK s₁.heap s'.heap ∧ s'.os = s₁.os ∧ AllBare s'.gens) s₁ := by
    intro H hO hS hok hA
    have other : ∀ {b : Addr}, b ≠ a → H b = none := fun {b} n => by
      cases q : H b with
      | none => rfl
      | some u => exact (n (hA b (by rw [q]; simp)).1).elim
    have nsB : ∀ {b : Addr} {m : Str → Option Value}, s₁.heap.Ns b m → (hidT s₁.heap H).Ns b m := fun {b m} ⟨o, es, ep, e, d, r⟩ => ⟨o, es, ep, hidT_get e (other fun z => by
      subst z
      rw [ha] at e
      cases e
      exact Data.noConfusion (show Data.seq vs.toArray _ = Data.dict es ep from d)), d, r⟩
    have hKb : K.In (hidT s₁.heap H) := fun b o e => hidT_get (KX b o e) (by
      cases q : H b with
      | none => rfl
      | some u =>
        obtain ⟨e1, e2⟩ := hA b (by rw [q]; simp)
        subst e1
        rw [e2] at e
        cases e)
    have hM : Mod K mg (hidT s₁.heap H) := ⟨hKb, nsB hns, ⟨mb, nsB hb, hbb⟩, let ⟨mc, h1, h2⟩ := hlim; ⟨mc, nsB h1, h2⟩⟩
    have e0 : Env0 P w K mg (hidT s₁.heap H) callerA [] s₁ H := ⟨rfl, hM, fun b o e => of_hidT e, Nat.le_of_eq (hidT_size _ _), trivial, fun b z => absurd (show b ∈ ([] : List Addr) from z) (by simp), hok, .of_eq hg⟩
    refine codeAny_mono ((F _ hKb (nsB hns)).run callerA [] s₁ H ⟨[.ref a], []⟩ [.ref a] [.ref a] _ _ (roomTop hr) e0 (hbind s₁ (.ref a)) (.cons rfl .nil) (hsp H hO hS)) fun r s' h => ?_
    cases r with
    | error e => exact (hCX H e s' h).elim
    | ok fl =>
      cases fl with
      | ret u =>
        obtain ⟨v, H', os, bare, un, hok', r', q⟩ := h
        have q' : v = .bl true := q
        subst q'
        obtain rfl : u = Value.bool true := r'
        refine ⟨rfl, OldK.of_keep fun b o e => ?_, os, bare⟩
        rcases hO b with z | ⟨ob, xs, z⟩
        · exact un.keep b o e z (fun m => absurd (show b ∈ ([] : List Addr) from m) (by simp)) (by simp)
        · obtain ⟨e1, _⟩ := hok b _ z
          obtain ⟨e2, _⟩ := hok' b _ (un.frzs b ob _ z)
          rw [e] at e1
          cases e1
          exact e2
      | _ => exact h.elim
  cases hk : K.lookup a with
  | some o =>
    have e := KX a o hk
    rw [ha] at e
    cases e
    exact core (fun _ => none) (fun _ => .inl rfl) (.inr ⟨_, vs.toArray, _, hk, rfl, rfl, rfl, by rw [List.size_toArray, lenV]; exact hl, by simpa using rv⟩) (fun b u z => by cases z) fun b z => absurd rfl z
  | none =>
    let H : Hp := fun b => if b = a then some (.frz { cls := .type "list", data := .seq vs.toArray } (.lst (ns.map V.int))) else none
    have at_ : H a = some (.frz { cls := .type "list", data := .seq vs.toArray } (.lst (ns.map V.int))) := if_pos rfl
    have off : ∀ b, b ≠ a → H b = none := fun b n => if_neg n
    refine core H (fun b => ?_) (.inl (.inr ⟨_, at_⟩)) (fun b u z => ?_) fun b z => ⟨Classical.byContradiction fun n => z (off b n), hk⟩
    · by_cases hb : b = a
      · subst hb
        exact .inr ⟨_, _, at_⟩
      · exact .inl (off b hb)
    · by_cases hb : b = a
      · subst hb
        rw [at_] at z
        cases z
        exact ⟨ha, by rw [List.length_map]; exact hl, vs, _, rv, ha⟩
      · rw [off b hb] at z
        cases z
theorem walk_ofG {l : PySem.W.OpenLaw} {n k : Nat} {q : Program} {loose : List Str} {XP : (Str → Option Value) → Heap → Prop} {YP : World → Heap → Prop} {d : DefRec} {CX : World → CXT} {x : Str}
    (hn : l.most = some n) (hn2 : n ≤ sizeLine) (hdf : d.params.defaults = []) (hr : Room k callerA)
    (F : ∀ (w : World) (mg : Str → Option Value) (fa : Addr) (h : Heap), YP w h → h.Ns mainGlobals mg → mg d.name = some (.ref fa) →
      ∃ (K : Frag) (kc : Kc) (fd : FuncData) (f : List O → FR), K.In h ∧ kc.K = K ∧ (∀ (s : Shared) (u : Value), BindsTo s fd ⟨[u], []⟩ [(x, u)]) ∧
        (∀ ns : List Int, ns.length ≤ n → ∃ outs, f [.fz (.list (ns.map .int))] = .ret (.fz (.bool true)) outs) ∧
        ∀ base : Heap, K.In base → base.Ns mainGlobals mg → FnG l.prog w K mg base (CX w) k fa fd [x] (spM kc 1 f))
    (hCX : ∀ (w : World) (H : Hp) (s : Shared) (e : Value) (s' : Shared), CX w [] H s (fun _ _ _ => False) e s' → False) :
    PySem.W.WalkO q loose XP YP l.row.toRowW d [] (fun f vs => PySem.call f vs) := by
  refine Att.attach_call hn hdf fun w s₀ s₁ mg mb fa o pm cd doc a vs ns G Y ho hd hcd hmg hobj hints hlen hg => ?_
  obtain ⟨K, kc, fd, f, KX, hk, hb, hsp, hF⟩ := F w mg fa _ Y G.T.g hmg
  refine law_callG KX G.T.g G.T.b G.T.builtins G.T.nolimit hg hobj hints (Nat.le_trans hlen hn2) hr hF hb (fun H hO hS => ?_) fun H e s' => hCX w H s₁ e s'
  subst hk
  obtain ⟨outs, e⟩ := hsp ns hlen
  have fle : FLe H H := fun a u e => .inl e
  have repI : ∀ ns : List Int, Reps kc.K H (ns.map V.int) (ns.map .int) := fun ns => by
    induction ns with
    | nil => exact .nil
    | cons i ns ih => exact .cons (.int i) ih
  refine ⟨rfl, H, [.fz (.list (ns.map .int))], [], .cons (S := []) (T := []) (.fz (.lst hS (repI ns))) .nil, ⟨fle, .nil, (fun a m => by cases m), (fun a m => by cases m), (fun a m => by cases m), (fun a m => by cases m), Same.refl _, fun a u z => .inl (by show H a ≠ none; rw [z]; simp), fun _ _ z _ => z, fun _ n => n⟩, ?_⟩
  rw [e]
  intro v H' z
  obtain ⟨F', S', p1, p2⟩ := z
  cases p1 with
  | cons w r =>
    cases w with
    | fz w =>
      cases w with
      | bl => rfl
      | dic _ _ e => cases e
      | dit _ _ e => cases e
end FM
namespace FM
open PySem PySem.Spec L2 PyProof.Rows
/-! ### a list or a tuple that is walked -/
def iAny (K : Frag) (tl : TE) : TI := fun σ H R => tl σ H fun x H1 => ∃ a, x = .ref a ∧ (((∃ xs, SqL K H1 a xs) ∧ R (Itl K a) H1) ∨ ((∃ xs, SqT K H1 a xs) ∧ R (Itt K a) H1))
theorem pi_any {X : Cx} {tg l : Expr} {tl : TE} (hl : PE X l tl) : PI X tg l (iAny X.K tl) := by
  refine ⟨fun pins s σ H R I h => thn (hl.run pins s σ H _ I h) fun v s1 ⟨x, H1, I1, r1, q1⟩ => ?_⟩
  obtain ⟨a, rfl, q1⟩ := q1
  cases r1
  have fp : ∀ b ∈ [s1.heap.objs.size], FpOk X pins H1 b := fun b hb => (List.mem_singleton.mp hb).symm ▸ I1.fpOk (Nat.le_refl _) (I1.hok.fresh (Nat.le_refl _))
  rcases q1 with ⟨⟨xs, hq⟩, q⟩ | ⟨⟨xs, hq⟩, q⟩
  · obtain ⟨its, rv, p, hz⟩ := I1.list hq
    exact wpAny_pyIter_list p.isList ⟨s1.heap.objs.size, [s1.heap.objs.size], _, _, H1, rfl, I1.kept (t' := s1.toks) fun b o e => Heap.get?_push_of_some _ e, turn_list a _, ⟨_, Heap.get?_push_size _ rfl, rfl, rfl⟩, fp, q⟩
  · obtain ⟨its, rv, p, hz⟩ := I1.tuple hq
    exact wpAny_pyIter_tuple (show s1.heap.IsTuple a its.toArray from p) ⟨s1.heap.objs.size, [s1.heap.objs.size], _, _, H1, rfl, I1.kept (t' := s1.toks) fun b o e => Heap.get?_push_of_some _ e, turn_tuple a _, ⟨_, Heap.get?_push_size _ rfl, rfl, rfl⟩, fp, q⟩
def fzA : O → Option (List PD)
  | .fz (.list ds) => some ds
  | .fz (.tuple ds) => some ds
  | .ktp ds => some ds
  | _ => none
def viA : O → Option (List PD)
  | .fz (.list ds) => some ds
  | .fz (.tuple ds) => some ds
  | .ktp ds => some ds
  | .lst ds => some ds
  | _ => none
theorem fzA_or {o : O} {ds : List PD} (e : fzA o = some ds) : fzL o = some ds ∨ seqR o = some ds := by
  unfold fzA at e
  split at e
  · exact .inl e
  · exact .inr e
  · exact .inr e
  · cases e
theorem viA_or {o : O} {ds : List PD} (e : viA o = some ds) : seqL o = some ds ∨ seqR o = some ds := by
  unfold viA at e
  split at e
  · exact .inl e
  · exact .inr e
  · exact .inr e
  · exact .inl e
  · cases e
def qItA (a : QE) : QI := fun ρ => match a ρ with
  | none => none
  | some x => viA x
def qIfA (a : QE) : QI := fun ρ => match a ρ with
  | none => none
  | some x => fzA x
section
variable {k : Kc} {E : XK} {te : TE} {qa : QE} {m : M O}
theorem tiv_any (ha : TEv k te qa) : TIv k (iAny k.K te) (qItA qa) := by
  intro F H σ ρ S ds R q e g
  unfold qItA at e
  cases e1 : qa ρ with
  | none => rw [e1] at e; cases e
  | some x =>
    rw [e1] at e
    refine ha F H σ ρ S x _ q e1 fun v F1 H1 x1 w1 => ?_
    rcases viA_or e with e | e
    · obtain ⟨a, vs, rfl, g1, g2⟩ := w1.seqL x1.fle e
      exact ⟨a, rfl, .inl ⟨⟨vs, g1⟩, g _ F1 H1 x1 (walkD_list (fun F2 H2 p f => ⟨sqL_sub p.ex g1, g2.sub p.sub⟩) g2.length)⟩⟩
    · obtain ⟨a, vs, rfl, g1, g2⟩ := w1.seqR x1.fle e
      exact ⟨a, rfl, .inr ⟨⟨vs, g1⟩, g _ F1 H1 x1 (walkD_tup (fun F2 H2 p f => ⟨sqT_sub p.ex g1, g2.sub p.sub⟩) g2.length)⟩⟩
theorem tif_any (ha : TEv k te qa) : TIf k (iAny k.K te) (qIfA qa) := by
  intro F H σ ρ S ds R q e g
  unfold qIfA at e
  cases e1 : qa ρ with
  | none => rw [e1] at e; cases e
  | some x =>
    rw [e1] at e
    refine ha F H σ ρ S x _ q e1 fun v F1 H1 x1 w1 => ?_
    rcases fzA_or e with e | e
    · obtain ⟨a, vs, rfl, g1, g2⟩ := w1.fzL e
      exact ⟨a, rfl, .inl ⟨⟨vs, sqL_le x1.fle g1⟩, g _ F1 H1 x1 (walkD_list (fun F2 H2 p f => ⟨sqL_le f (sqL_sub p g1), g2.sub p⟩) g2.length)⟩⟩
    · obtain ⟨a, vs, rfl, g1, g2⟩ := w1.fzR e
      exact ⟨a, rfl, .inr ⟨⟨vs, sqT_le x1.fle (g1 F1 (Same.refl _))⟩, g _ F1 H1 x1 (walkD_tup (fun F2 H2 p f => ⟨sqT_le f (g1 F2 p), g2.sub p⟩) g2.length)⟩⟩
def iAnyM (m : M O) : M (List PD) := fun ρ => match m ρ with
  | .ok o ρ1 => match fzA o with
    | some ds => .ok ds ρ1
    | none => .bad
  | .exc x ρ1 => .exc x ρ1
  | .bad => .bad
theorem tim_any (h : TEm k E te m) : TIm k E (iAny k.K te) (iAnyM m) := by
  intro P e σ ρ vs os H R s g
  refine h P e σ ρ vs os H _ s ?_
  unfold iAnyM at g
  cases e1 : m ρ with
  | exc x ρ1 => rw [e1] at g; exact g
  | bad => rw [e1] at g; exact g
  | ok o ρ1 =>
    rw [e1] at g
    intro v H1 s1
    simp only at g
    cases e2 : fzA o with
    | none => rw [e2] at g; exact g.elim
    | some ds =>
      rw [e2] at g
      obtain ⟨F, S1, S2, env, tmp, fr, pin⟩ := s1
      cases tmp with
      | @cons _ _ _ _ T U w r =>
        have s2 : StW k P e σ ρ1 vs os F H1 S1 U := ⟨env, r, fr.sub (List.Sublist.append (.refl _) (List.sublist_append_right _ _)), pin⟩
        have vw : Vw k F H1 T v o := ⟨T, fun _ z => z, w⟩
        rcases fzA_or e2 with e3 | e3
        · obtain ⟨a, vs, rfl, g1, g2⟩ := vw.fzL e3
          exact ⟨a, rfl, .inl ⟨⟨vs, sqL_le fr.fle g1⟩, g _ F H1 S1 U s2 (walkD_list (fun F2 H2 p f => ⟨sqL_le f (sqL_sub p g1), g2.sub p⟩) g2.length)⟩⟩
        · obtain ⟨a, vs, rfl, g1, g2⟩ := vw.fzR e3
          exact ⟨a, rfl, .inr ⟨⟨vs, sqT_le fr.fle (g1 F (Same.refl _))⟩, g _ F H1 S1 U s2 (walkD_tup (fun F2 H2 p f => ⟨sqT_le f (g1 F2 p), g2.sub p⟩) g2.length)⟩⟩
end
/-! ### calls by name -/
theorem RoomG.u1 {k : Nat} {A : Around} (r : RoomG k A) : A.units + 1 < cLine := by have := r.rm.un; omega
theorem RoomG.u64 {k : Nat} {A : Around} (r : RoomG k A) : A.units + 64 < cLine := by have := r.rm.un; omega
theorem RoomG.u65 {k : Nat} {A : Around} (r : RoomG k A) : A.units + 65 < cLine := by have := r.rm.un; omega
theorem RoomG.u68 {k : Nat} {A : Around} (r : RoomG k A) : A.units + 68 < cLine := by have := r.rm.un; omega
abbrev CXg (P : Program) (w : World) : CXT := L2.CX P w
structure CalG (P : Program) (w : World) (K : Frag) (mg : Str → Option Value) (base : Heap) (k : Nat) (x : Str) (sp : Sp) : Prop where
  ex : ∃ (f : Addr) (fd : FuncData) (ps : List Str), FnG P w K mg base (CXg P w) k f fd ps sp ∧ mg x = some (.ref f) ∧ PySem.W.keepIn K (.ref f) = true ∧ Binds K fd ps []
section
variable {P : Program} {w : World} {K : Frag} {mg : Str → Option Value} {base : Heap} {k : Nat} {x : Str}
theorem CalG.quiet {kc : Kc} {n : Nat} {g : List O → FR} (c : CalG P w K mg base k x (spM kc n g)) : CalG P w K mg base k x (spQ kc n (qOf g)) :=
  let ⟨f, fd, ps, F, h⟩ := c.ex
  ⟨f, fd, ps, F.quiet, h⟩
end
section
variable {X : Cx} {j k : Nat} {sp : Sp} {E : XK} {x : Str} {p pos : Pos} {e : Expr} {es : List Expr} {t : TA}
theorem pe_g (c : CalG X.prog X.w X.K X.mg X.base k x sp) (hr : RoomG j X.A) (hk : k ≤ j) (hx : Passes (CXg X.prog X.w) X E) (hg : Gl X x) (ha : PA X (e :: es) t)
    (hdb : (x == ("__debug__" : Str)) = false := by decide) (he : starEach (e :: es) X.env = (false, eval e X.env) :: starEach es X.env := by rfl) (hpl : (backTo pos (starEach es X.env)).any (·.1) = false := by rfl) : PE X (.Call (.Name x p) (e :: es) [] pos) (tCall sp [] E t) := by
  obtain ⟨f, fd, ps, F, hm, kp, b⟩ := c.ex
  exact pe_callG F (hr.mono hk) hg hm kp b .nil hx ha hdb he hpl
theorem pe_g0 (c : CalG X.prog X.w X.K X.mg X.base k x sp) (hr : RoomG j X.A) (hk : k ≤ j) (hx : Passes (CXg X.prog X.w) X E) (hg : Gl X x)
    (hdb : (x == ("__debug__" : Str)) = false := by decide) : PE X (.Call (.Name x p) [] [] pos) (tCall sp [] E tNil) := by
  obtain ⟨f, fd, ps, F, hm, kp, b⟩ := c.ex
  exact pe_call0G F (hr.mono hk) hg hm kp b .nil hx hdb
end
theorem qlen_nil (ρ os : List O) (e : qNil ρ = some os) : os.length = 0 := by
  have e' := Option.some.inj e
  rw [← e']
  rfl
theorem qlen_cons {a : QE} {r : List O → Option (List O)} {n : Nat} (h : ∀ ρ os, r ρ = some os → os.length = n) (ρ os : List O) (e : qCons a r ρ = some os) : os.length = n + 1 := by
  unfold qCons at e
  split at e
  · cases e
  · split at e
    · cases e
    · rename_i e2
      have e' := Option.some.inj e
      rw [← e', List.length_cons, h _ _ e2]
theorem cx_none {P : Program} {w : World} (H : Hp) (s : Shared) (e : Value) (s' : Shared) (h : CXg P w [] H s E0 e s') : False := by
  obtain ⟨_, _, _, _, _, _, _, _, _, _, _, _, z⟩ := h
  exact z
end FM
namespace FM
open PySem PySem.Spec L2 PyProof.Rows
/-! ### what a mirror comes to -/
def wM {α : Type} (r : R α) (Q : α → List O → Prop) : Prop := match r with
  | .ok a ρ => Q a ρ
  | _ => False
def wS (r : RS) (nx : List O → Prop) (rt : O → List O → Prop) (bk ct : List O → Prop) : Prop := match r with
  | .next ρ => nx ρ
  | .ret o ρ => rt o ρ
  | .brk ρ => bk ρ
  | .cont ρ => ct ρ
  | _ => False
def wF (r : FR) (Q : O → List O → Prop) : Prop := match r with
  | .ret o outs => Q o outs
  | _ => False
section
variable {ρ : List O} {Q : O → List O → Prop} {nx bk ct : List O → Prop} {rt : O → List O → Prop} {q : QE} {m m1 m2 : M O} {c : M Bool} {a b : MS} {QB : Bool → List O → Prop} {QL : List O → List O → Prop} {ml : M (List O)}
@[simp] theorem wM_ok {α : Type} {x : α} {Q : α → List O → Prop} : wM (.ok x ρ) Q = Q x ρ := rfl
@[simp] theorem wM_lift : wM (mLift q ρ) Q = ∃ d, q ρ = some (.fz d) ∧ Q (.fz d) ρ := by
  unfold mLift
  apply propext
  split
  · rename_i d e
    exact ⟨fun h => ⟨d, e, h⟩, fun ⟨d', e', h⟩ => by rw [e] at e'; cases e'; exact h⟩
  · rename_i hn
    exact ⟨fun h => h.elim, fun ⟨d', e', h⟩ => (hn d' e').elim⟩
@[simp] theorem wM_new : wM (mNew q ρ) Q = ∃ o, q ρ = some o ∧ Q o ρ := by
  unfold mNew
  cases e : q ρ <;> simp [wM]
@[simp] theorem wM_frz : wM (frzM m ρ) Q = wM (m ρ) fun o ρ1 => ∃ d, toPD o = some d ∧ Q (.fz d) ρ1 := by
  unfold frzM
  cases e : m ρ with
  | ok o ρ1 =>
    simp only [wM_ok]
    cases e2 : toPD o <;> simp [wM]
  | _ => rfl
@[simp] theorem wM_move {i : Nat} : wM (mMove i ρ) Q = ∃ o, qVar i ρ = some o ∧ Q o (ρ.set i .dead) := by
  unfold mMove
  cases e : qVar i ρ <;> simp [wM]
@[simp] theorem wM_gz {i : Nat} : wM (mGz i m ρ) Q = wM (m (frzO i ρ)) Q := rfl
@[simp] theorem wS_gz {i : Nat} : wS (sGz i a ρ) nx rt bk ct = wS (a (frzO i ρ)) nx rt bk ct := rfl
@[simp] theorem wM_op {f : O → O → Option O} : wM (mOp f m1 m2 ρ) Q = wM (m1 ρ) fun o1 ρ1 => ∃ d1, o1 = .fz d1 ∧ wM (m2 ρ1) fun o2 ρ2 => ∃ d2, o2 = .fz d2 ∧ ∃ d, f (.fz d1) (.fz d2) = some (.fz d) ∧ Q (.fz d) ρ2 := by
  unfold mOp
  cases e : m1 ρ with
  | ok o ρ1 =>
    cases o with
    | fz d1 =>
      simp only [wM_ok]
      cases e2 : m2 ρ1 with
      | ok o2 ρ2 =>
        cases o2 with
        | fz d2 =>
          cases e3 : f (.fz d1) (.fz d2) with
          | none => simp [wM, e2, e3]
          | some z => cases z <;> simp [wM, e2, e3]
        | _ => simp [wM, e2]
      | _ => simp [wM, e2]
    | _ => simp [wM]
  | _ => simp [wM]
@[simp] theorem wM_opV {f : O → O → Option O} : wM (mOpV f m1 q ρ) Q = wM (m1 ρ) fun o1 ρ1 => ∃ d1, o1 = .fz d1 ∧ ∃ o2, q ρ1 = some o2 ∧ ∃ d, f (.fz d1) o2 = some (.fz d) ∧ Q (.fz d) ρ1 := by
  unfold mOpV
  cases e : m1 ρ with
  | ok o ρ1 =>
    cases o with
    | fz d1 =>
      cases e2 : q ρ1 with
      | none => simp [wM, e2]
      | some o2 =>
        cases e3 : f (.fz d1) o2 with
        | none => simp [wM, e2, e3]
        | some z => cases z <;> simp [wM, e2, e3]
    | _ => simp [wM]
  | _ => simp [wM]
@[simp] theorem wM_opS {f : O → O → Option O} {i : Nat} : wM (mOpS f i m2 ρ) Q = ((∃ o0, qVar i ρ = some o0) ∧ wM (m2 ρ) fun o2 ρ1 => ∃ d2, o2 = .fz d2 ∧ ∃ o1, qVar i ρ1 = some o1 ∧ ∃ d, f o1 (.fz d2) = some (.fz d) ∧ Q (.fz d) ρ1) := by
  unfold mOpS
  cases e0 : qVar i ρ with
  | none => simp [wM]
  | some o0 =>
    cases e : m2 ρ with
    | ok o ρ1 =>
      cases o with
      | fz d2 =>
        cases e2 : qVar i ρ1 with
        | none => simp [wM, e2]
        | some o1 =>
          cases e3 : f o1 (.fz d2) with
          | none => simp [wM, e2, e3]
          | some z => cases z <;> simp [wM, e2, e3]
      | _ => simp [wM]
    | _ => simp [wM]
@[simp] theorem wM_un {f : O → Option O} : wM (mUn f m ρ) Q = wM (m ρ) fun o1 ρ1 => ∃ d1, o1 = .fz d1 ∧ ∃ d, f (.fz d1) = some (.fz d) ∧ Q (.fz d) ρ1 := by
  unfold mUn
  cases e : m ρ with
  | ok o ρ1 =>
    cases o with
    | fz d1 =>
      cases e3 : f (.fz d1) with
      | none => simp [wM, e3]
      | some z => cases z <;> simp [wM, e3]
    | _ => simp [wM]
  | _ => simp [wM]
@[simp] theorem wM_if : wM (mIf c m1 m2 ρ) Q = wM (c ρ) fun t ρ1 => (t = true → wM (m1 ρ1) Q) ∧ (t = false → wM (m2 ρ1) Q) := by
  unfold mIf
  cases e : c ρ with
  | ok t ρ1 => cases t <;> simp
  | _ => rfl
@[simp] theorem wM_and : wM (mAnd m1 m2 ρ) Q = wM (m1 ρ) fun o ρ1 => ∃ t, o = .fz (.bool t) ∧ (t = true → wM (m2 ρ1) Q) ∧ (t = false → Q (.fz (.bool false)) ρ1) := by
  unfold mAnd
  cases e : m1 ρ with
  | ok o ρ1 =>
    cases o with
    | fz d =>
      cases d with
      | bool t => cases t <;> simp
      | _ => simp [wM]
    | _ => simp [wM]
  | _ => rfl
@[simp] theorem wM_or : wM (mOr m1 m2 ρ) Q = wM (m1 ρ) fun o ρ1 => ∃ t, o = .fz (.bool t) ∧ (t = false → wM (m2 ρ1) Q) ∧ (t = true → Q (.fz (.bool true)) ρ1) := by
  unfold mOr
  cases e : m1 ρ with
  | ok o ρ1 =>
    cases o with
    | fz d =>
      cases d with
      | bool t => cases t <;> simp
      | _ => simp [wM]
    | _ => simp [wM]
  | _ => rfl
@[simp] theorem wM_not : wM (mNot m ρ) Q = wM (m ρ) fun o ρ1 => ∃ t, o = .fz (.bool t) ∧ Q (.fz (.bool (!t))) ρ1 := by
  unfold mNot
  cases e : m ρ with
  | ok o ρ1 =>
    cases o with
    | fz d =>
      cases d with
      | bool t => cases t <;> simp
      | _ => simp [wM]
    | _ => simp [wM]
  | _ => rfl
@[simp] theorem wM_bLift {q : List O → Option Bool} : wM (bLift q ρ) QB = ∃ t, q ρ = some t ∧ QB t ρ := by
  unfold bLift
  cases e : q ρ <;> simp [wM]
@[simp] theorem wM_bTest : wM (bTest m ρ) QB = wM (m ρ) fun o ρ1 => ∃ t, o = .fz (.bool t) ∧ QB t ρ1 := by
  unfold bTest
  cases e : m ρ with
  | ok o ρ1 =>
    cases o with
    | fz d =>
      cases d with
      | bool t => cases t <;> simp
      | _ => simp [wM]
    | _ => simp [wM]
  | _ => rfl
@[simp] theorem wM_bAnd {d : M Bool} : wM (bAnd c d ρ) QB = wM (c ρ) fun t ρ1 => (t = true → wM (d ρ1) QB) ∧ (t = false → QB false ρ1) := by
  unfold bAnd
  cases e : c ρ with
  | ok t ρ1 => cases t <;> simp
  | _ => rfl
@[simp] theorem wM_bOr {d : M Bool} : wM (bOr c d ρ) QB = wM (c ρ) fun t ρ1 => (t = false → wM (d ρ1) QB) ∧ (t = true → QB true ρ1) := by
  unfold bOr
  cases e : c ρ with
  | ok t ρ1 => cases t <;> simp
  | _ => rfl
@[simp] theorem wM_bNot : wM (bNot c ρ) QB = wM (c ρ) fun t ρ1 => QB (!t) ρ1 := by
  unfold bNot
  cases e : c ρ <;> rfl
@[simp] theorem wM_nil : wM (mNil ρ) QL = QL [] ρ := rfl
@[simp] theorem wM_cons : wM (mCons m ml ρ) QL = wM (m ρ) fun o ρ1 => wM (ml ρ1) fun xs ρ2 => QL (o :: xs) ρ2 := by
  unfold mCons
  cases e : m ρ with
  | ok o ρ1 =>
    simp only [wM_ok]
    cases e2 : ml ρ1 <;> rfl
  | _ => rfl
@[simp] theorem wM_ref {i : Nat} : wM (mRef i ml ρ) QL = ((∃ o, qVar i ρ = some o) ∧ wM (ml ρ) fun xs ρ2 => QL (.dead :: xs) ρ2) := by
  unfold mRef
  cases e : qVar i ρ with
  | none => simp [wM]
  | some o =>
    cases e2 : ml ρ <;> simp [wM]
@[simp] theorem wM_call {f : List O → FR} {as : List (Option Nat)} : wM (mCall f as ml ρ) Q = wM (ml ρ) fun xs ρ1 => match fillA as xs ρ1 with
    | some z => wF (f z.1) fun o outs => Q o (backA as outs z.2)
    | none => False := by
  unfold mCall
  cases e : ml ρ with
  | ok xs ρ1 =>
    simp only [wM_ok]
    cases e2 : fillA as xs ρ1 with
    | none => simp [wM]
    | some z =>
      simp only
      cases e3 : f z.1 <;> simp [wM, wF, e3]
  | _ => rfl
@[simp] theorem refO_fz {d : PD} : refO (.fz d) = false := rfl
@[simp] theorem refO_lst {ds : List PD} : refO (.lst ds) = true := rfl
@[simp] theorem refO_dic {ds : List (Key × PD)} : refO (.dic ds) = true := rfl
@[simp] theorem refO_dit {ds : List (List Key × PD)} : refO (.dit ds) = true := rfl
@[simp] theorem refO_nst {ds : List O} : refO (.nst ds) = true := rfl
@[simp] theorem refO_ntp {ds : List O} : refO (.ntp ds) = true := rfl
@[simp] theorem refO_ndc {ds : List (Key × O)} : refO (.ndc ds) = true := rfl
@[simp] theorem refO_ins {c : Nat} {ds : List (Str × O)} : refO (.ins c ds) = true := rfl
@[simp] theorem wM_tup : wM (mTup ml ρ) Q = wM (ml ρ) fun xs ρ1 => xs.length ≤ sizeLine ∧ match fzs xs with
    | some ds => Q (.fz (.tuple ds)) ρ1
    | none => xs.any refO = true ∧ Q (.ntp xs) ρ1 := by
  unfold mTup
  cases e : ml ρ with
  | ok xs ρ1 =>
    simp only [wM_ok]
    split
    · rename_i h
      cases e2 : fzs xs with
      | some ds => simp [h]
      | none =>
        by_cases hr : xs.any refO = true
        · simp [h, hr]
        · simp only [hr, if_false]
          simp [wM]
    · rename_i h
      simp [wM, h]
  | _ => rfl
@[simp] theorem wM_lst : wM (mLst ml ρ) Q = wM (ml ρ) fun xs ρ1 => xs.length ≤ sizeLine ∧ match fzs xs with
    | some ds => Q (.lst ds) ρ1
    | none => Q (.nst xs) ρ1 := by
  unfold mLst
  cases e : ml ρ with
  | ok xs ρ1 =>
    simp only [wM_ok]
    split
    · rename_i h
      cases e2 : fzs xs <;> simp [h]
    · rename_i h
      simp [wM, h]
  | _ => rfl
@[simp] theorem wM_cb {f : List O → Option O} : wM (mCb f ml ρ) Q = wM (ml ρ) fun xs ρ1 => ∃ ds, fzs xs = some ds ∧ ∃ d, f (ds.map .fz) = some (.fz d) ∧ Q (.fz d) ρ1 := by
  unfold mCb
  cases e : ml ρ with
  | ok xs ρ1 =>
    simp only [wM_ok]
    cases e2 : fzs xs with
    | none => simp [wM]
    | some ds =>
      cases e3 : f (ds.map .fz) with
      | none => simp [wM, e3]
      | some z => cases z <;> simp [wM, e3]
  | _ => rfl
@[simp] theorem wM_cbN {f : List O → Option O} : wM (mCbN f ml ρ) Q = wM (ml ρ) fun xs ρ1 => ∃ ds, fzs xs = some ds ∧ ∃ o, f (ds.map .fz) = some o ∧ Q o ρ1 := by
  unfold mCbN
  cases e : ml ρ with
  | ok xs ρ1 =>
    simp only [wM_ok]
    cases e2 : fzs xs with
    | none => simp [wM]
    | some ds => cases e3 : f (ds.map .fz) <;> simp [wM, e3]
  | _ => rfl
@[simp] theorem wM_pNo {Q : Option Int → List O → Prop} : wM (pNo ρ) Q = Q none ρ := rfl
@[simp] theorem wM_pPart {Q : Option Int → List O → Prop} : wM (pPart m ρ) Q = wM (m ρ) fun o ρ1 => ∃ i, o = .fz (.int i) ∧ Q (some i) ρ1 := by
  unfold pPart
  cases e : m ρ with
  | ok o ρ1 =>
    cases o with
    | fz d =>
      cases d with
      | int t => simp
      | _ => simp [wM]
    | _ => simp [wM]
  | _ => rfl
@[simp] theorem wM_sl {pl ph : M (Option Int)} : wM (mSl m pl ph ρ) Q = wM (m ρ) fun o ρ1 => ∃ d, o = .fz d ∧ wM (pl ρ1) fun lo ρ2 => wM (ph ρ2) fun hi ρ3 => ∃ d', oSl (.fz d) lo hi = some (.fz d') ∧ Q (.fz d') ρ3 := by
  unfold mSl
  cases e : m ρ with
  | ok o ρ1 =>
    cases o with
    | fz d =>
      simp only [wM_ok]
      cases e2 : pl ρ1 with
      | ok lo ρ2 =>
        simp only [wM_ok]
        cases e3 : ph ρ2 with
        | ok hi ρ3 =>
          cases e4 : oSl (.fz d) lo hi with
          | none => simp [wM, e2, e3, e4]
          | some z => cases z <;> simp [wM, e2, e3, e4]
        | _ => simp [wM, e2, e3]
      | _ => simp [wM, e2]
    | _ => simp [wM]
  | _ => rfl
@[simp] theorem wM_mt {i : Nat} {f : List PD → List PD → Option (PD × List PD)} : wM (mMt i f ml ρ) Q = ((∃ ds, qVar i ρ = some (.lst ds)) ∧ wM (ml ρ) fun xs ρ1 => ∃ zs, fzs xs = some zs ∧ ∃ ds, qVar i ρ1 = some (.lst ds) ∧ ∃ d ds', f ds zs = some (d, ds') ∧ Q (.fz d) (ρ1.set i (.lst ds'))) := by
  unfold mMt
  cases e0 : qVar i ρ with
  | none => simp [wM]
  | some o0 =>
    cases o0 with
    | lst ds0 =>
      cases e : ml ρ with
      | ok xs ρ1 =>
        simp only [wM_ok]
        cases e2 : fzs xs with
        | none => simp [wM]
        | some zs =>
          simp only
          cases e3 : qVar i ρ1 with
          | none => simp [wM, e3]
          | some o1 =>
            cases o1 with
            | lst ds =>
              cases e4 : f ds zs with
              | none => simp [wM, e3, e4]
              | some r => obtain ⟨d, ds'⟩ := r; simp [wM, e3, e4]; exact ⟨fun h => ⟨d, ds', ⟨rfl, rfl⟩, h⟩, fun ⟨_, _, ⟨e1, e2⟩, h⟩ => by rw [e1, e2]; exact h⟩
            | _ => simp [wM, e3]
      | _ => simp [wM]
    | _ => simp [wM]
@[simp] theorem wM_mt0 {i : Nat} {f : List PD → List PD → Option (PD × List PD)} : wM (mMt0 i f ρ) Q = ∃ ds, qVar i ρ = some (.lst ds) ∧ ∃ d ds', f ds [] = some (d, ds') ∧ Q (.fz d) (ρ.set i (.lst ds')) := by
  unfold mMt0
  cases e0 : qVar i ρ with
  | none => simp [wM]
  | some o0 =>
    cases o0 with
    | lst ds =>
      cases e4 : f ds [] with
      | none => simp [wM, e4]
      | some r => obtain ⟨d, ds'⟩ := r; simp [wM, e4]; exact ⟨fun h => ⟨d, ds', ⟨rfl, rfl⟩, h⟩, fun ⟨_, _, ⟨e1, e2⟩, h⟩ => by rw [e1, e2]; exact h⟩
    | _ => simp [wM]
@[simp] theorem wM_iLift {q : QI} {Q : List PD → List O → Prop} : wM (iLift q ρ) Q = ∃ ds, q ρ = some ds ∧ Q ds ρ := by
  unfold iLift
  cases e : q ρ <;> simp [wM]
@[simp] theorem wM_iAnyM {Q : List PD → List O → Prop} : wM (iAnyM m ρ) Q = wM (m ρ) fun o ρ1 => ∃ ds, fzA o = some ds ∧ Q ds ρ1 := by
  unfold iAnyM
  cases e : m ρ with
  | ok o ρ1 => cases e2 : fzA o <;> simp [wM, e2]
  | _ => rfl
/-! statements -/
@[simp] theorem wS_next : wS (sNext ρ) nx rt bk ct = nx ρ := rfl
theorem wS_seq : wS (sSeq a b ρ) nx rt bk ct = wS (a ρ) (fun ρ1 => wS (b ρ1) nx rt bk ct) rt bk ct := by
  unfold sSeq
  cases e : a ρ <;> rfl
@[simp] theorem wS_drop : wS (sDrop m ρ) nx rt bk ct = wM (m ρ) fun _ ρ1 => nx ρ1 := by
  unfold sDrop
  cases e : m ρ <;> rfl
@[simp] theorem wS_ret : wS (sRet m ρ) nx rt bk ct = wM (m ρ) rt := by
  unfold sRet
  cases e : m ρ <;> rfl
@[simp] theorem wS_retN : wS (sRetN ρ) nx rt bk ct = rt (.fz .none) ρ := rfl
@[simp] theorem wS_brk : wS (sBrk ρ) nx rt bk ct = bk ρ := rfl
@[simp] theorem wS_cont : wS (sCont ρ) nx rt bk ct = ct ρ := rfl
@[simp] theorem wS_set {j : Nat} : wS (sSet j m ρ) nx rt bk ct = wM (m ρ) fun o ρ1 => nx (ρ1.set j o) := by
  unfold sSet
  cases e : m ρ <;> rfl
@[simp] theorem wS_asg {f : QG} : wS (sAsg f m ρ) nx rt bk ct = wM (m ρ) fun o ρ1 => ∃ d, o = .fz d ∧ ∃ ρ2, f d ρ1 = some ρ2 ∧ nx ρ2 := by
  unfold sAsg
  cases e : m ρ with
  | ok o ρ1 =>
    cases o with
    | fz d => cases e2 : f d ρ1 <;> simp [wS, e2]
    | _ => simp [wS]
  | _ => rfl
@[simp] theorem wS_par {i j : Nat} : wS (sPar i j ml ρ) nx rt bk ct = wM (ml ρ) fun xs ρ1 => match xs with
    | [o1, o2] => nx ((ρ1.set i o1).set j o2)
    | _ => False := by
  unfold sPar
  cases e : ml ρ with
  | ok xs ρ1 =>
    match xs with
    | [] => simp [wS]
    | [_] => simp [wS]
    | [o1, o2] => simp [wS]
    | _ :: _ :: _ :: _ => simp [wS]
  | _ => rfl
@[simp] theorem wS_par3 {i j l : Nat} : wS (sPar3 i j l ml ρ) nx rt bk ct = wM (ml ρ) fun xs ρ1 => match xs with
    | [o1, o2, o3] => nx (((ρ1.set i o1).set j o2).set l o3)
    | _ => False := by
  unfold sPar3
  cases e : ml ρ with
  | ok xs ρ1 =>
    match xs with
    | [] => simp [wS]
    | [_] => simp [wS]
    | [_, _] => simp [wS]
    | [o1, o2, o3] => simp [wS]
    | _ :: _ :: _ :: _ :: _ => simp [wS]
  | _ => rfl
@[simp] theorem wS_if : wS (sIf c a b ρ) nx rt bk ct = wM (c ρ) fun t ρ1 => (t = true → wS (a ρ1) nx rt bk ct) ∧ (t = false → wS (b ρ1) nx rt bk ct) := by
  unfold sIf
  cases e : c ρ with
  | ok t ρ1 => cases t <;> simp
  | _ => rfl
@[simp] theorem wS_setI {s : Nat} {qi : QE} : wS (sSetI s qi m ρ) nx rt bk ct = wM (m ρ) fun o ρ1 => ∃ d, o = .fz d ∧ ∃ ds, qVar s ρ1 = some (.lst ds) ∧ ∃ i, qi ρ1 = some (.fz i) ∧ ∃ ds', fSetI ds i d = some ds' ∧ nx (ρ1.set s (.lst ds')) := by
  unfold sSetI
  cases e : m ρ with
  | ok o ρ1 =>
    cases o with
    | fz d =>
      simp only [wM_ok]
      cases e2 : qVar s ρ1 with
      | none => simp [wS, e2]
      | some z =>
        cases z with
        | lst ds =>
          cases e3 : qi ρ1 with
          | none => simp [wS, e2, e3]
          | some y =>
            cases y with
            | fz i => cases e4 : fSetI ds i d <;> simp [wS, e2, e3, e4]
            | _ => simp [wS, e2, e3]
        | _ => simp [wS, e2]
    | _ => simp [wS]
  | _ => rfl
@[simp] theorem wS_for {mi : M (List PD)} {f : QG} : wS (sFor mi f a ρ) nx rt bk ct = wM (mi ρ) fun ds ρ1 => wS (forGo f a ds ρ1) nx rt bk ct := by
  unfold sFor
  cases e : mi ρ <;> rfl
@[simp] theorem wF_defN {more : Nat} {io : List Bool} {os : List O} : wF (defN more io a os) Q = wS (a (os ++ deadN more)) (fun ρ => Q (.fz .none) (outsE io ρ)) (fun o ρ => Q o (outsE io ρ)) (fun _ => False) (fun _ => False) := by
  unfold defN
  cases e : a (os ++ deadN more) <;> rfl
theorem wS_mono {r : RS} {nx' bk' ct' : List O → Prop} {rt' : O → List O → Prop} (h : wS r nx rt bk ct) (h1 : ∀ ρ, nx ρ → nx' ρ) (h2 : ∀ o ρ, rt o ρ → rt' o ρ) (h3 : ∀ ρ, bk ρ → bk' ρ) (h4 : ∀ ρ, ct ρ → ct' ρ) : wS r nx' rt' bk' ct' := by
  cases r with
  | next ρ => exact h1 _ h
  | ret o ρ => exact h2 _ _ h
  | brk ρ => exact h3 _ h
  | cont ρ => exact h4 _ h
  | _ => exact h
theorem wF_mono {r : FR} {Q' : O → List O → Prop} (h : wF r Q) (h1 : ∀ o ρ, Q o ρ → Q' o ρ) : wF r Q' := by
  cases r with
  | ret o ρ => exact h1 _ _ h
  | _ => exact h
/-- for, by an invariant -/
theorem for_inv {f : QG} (I : Nat → List O → Prop) : ∀ (xs : List PD) (k : Nat) (ρ : List O), I k ρ → (∀ i x ρ, xs[i]? = some x → I (k + i) ρ → ∃ ρ1, f x ρ = some ρ1 ∧ wS (a ρ1) (I (k + i + 1)) rt nx (I (k + i + 1))) → (∀ ρ, I (k + xs.length) ρ → nx ρ) → wS (forGo f a xs ρ) nx rt bk ct
  | [], k, ρ, h0, _, he => he ρ h0
  | x :: xs, k, ρ, h0, hs, he => by
    obtain ⟨ρ1, e1, h1⟩ := hs 0 x ρ rfl h0
    unfold forGo
    rw [e1]
    simp only
    have go : ∀ ρ2, I (k + 1) ρ2 → wS (forGo f a xs ρ2) nx rt bk ct := fun ρ2 h2 => for_inv I xs (k + 1) ρ2 h2 (fun i y ρ3 ey h3 => by
      have := hs (i + 1) y ρ3 (by simpa using ey) (by rw [show k + (i + 1) = k + 1 + i by omega]; exact h3)
      rw [show k + (i + 1) = k + 1 + i by omega] at this
      exact this) fun ρ3 h3 => he ρ3 (by rw [show k + (x :: xs).length = k + 1 + xs.length by simp; omega]; exact h3)
    cases e2 : a ρ1 with
    | next ρ2 => rw [e2] at h1; exact go ρ2 h1
    | cont ρ2 => rw [e2] at h1; exact go ρ2 h1
    | brk ρ2 => rw [e2] at h1; exact h1
    | ret o ρ2 => rw [e2] at h1; exact h1
    | exc x ρ2 => rw [e2] at h1; exact h1.elim
    | bad => rw [e2] at h1; exact h1.elim
theorem wS_forI {f : QG} {xs : List PD} (I : Nat → List O → Prop) (h0 : I 0 ρ) (hs : ∀ i x ρ, xs[i]? = some x → I i ρ → ∃ ρ1, f x ρ = some ρ1 ∧ wS (a ρ1) (I (i + 1)) rt nx (I (i + 1))) (he : ∀ ρ, I xs.length ρ → nx ρ) : wS (forGo f a xs ρ) nx rt bk ct :=
  for_inv I xs 0 ρ h0 (fun i x ρ ex h => by rw [Nat.zero_add] at h ⊢; exact hs i x ρ ex h) fun ρ h => he ρ (by rw [Nat.zero_add] at h; exact h)
theorem wS_whileI (I : Nat → List O → Prop) (n : Nat) (h0 : I n ρ) (hs : ∀ n ρ, I n ρ → wM (c ρ) fun t ρ1 => (t = false → nx ρ1) ∧ (t = true → wS (a ρ1) (fun ρ2 => ∃ m, m < n ∧ I m ρ2) rt nx (fun ρ2 => ∃ m, m < n ∧ I m ρ2))) : wS (sWhile c a ρ) nx rt bk ct := by
  induction n using Nat.strongRecOn generalizing ρ with
  | ind n ih =>
    have h := hs n ρ h0
    rw [sWhile_eq]
    unfold whileStep
    cases e : c ρ with
    | bad => rw [e] at h; exact h.elim
    | exc x ρ1 => rw [e] at h; exact h.elim
    | ok t ρ1 =>
      rw [e] at h
      cases t with
      | false => exact h.1 rfl
      | true =>
        have h := h.2 rfl
        simp only
        cases e2 : a ρ1 with
        | next ρ2 => rw [e2] at h; obtain ⟨m, l, q⟩ := h; exact ih m l q
        | cont ρ2 => rw [e2] at h; obtain ⟨m, l, q⟩ := h; exact ih m l q
        | brk ρ2 => rw [e2] at h; exact h
        | ret o ρ2 => rw [e2] at h; exact h
        | exc x ρ2 => rw [e2] at h; exact h.elim
        | bad => rw [e2] at h; exact h.elim
theorem qof_of {f : List O → FR} {ds : List PD} {d : PD} (h : wF (f (ds.map .fz)) fun o _ => toPD o = some d) : qOf f ds = some d := by
  unfold qOf
  cases e : f (ds.map .fz) with
  | ret o outs => rw [e] at h; exact h
  | _ => rw [e] at h; exact h.elim
theorem law_of {f : List O → FR} {os : List O} (h : wF (f os) fun o _ => o = .fz (.bool true)) : ∃ outs, f os = .ret (.fz (.bool true)) outs := by
  cases e : f os with
  | ret o outs =>
    rw [e] at h
    have h' : o = _ := h
    rw [h']
    exact ⟨outs, rfl⟩
  | _ => rw [e] at h; exact h.elim
end
end FM
namespace FM
open PySem PySem.Spec L2 PyProof.Rows
/-! ### words at written-out slots -/
section
variable {ρ : List O} {o : O} {i j : Int}
@[simp] theorem qVar_fz {d : PD} : qVar 0 (.fz d :: ρ) = some (.fz d) := rfl
@[simp] theorem qVar_lst {ds : List PD} : qVar 0 (.lst ds :: ρ) = some (.lst ds) := rfl
@[simp] theorem qVar_dic {ds : List (Key × PD)} : qVar 0 (.dic ds :: ρ) = some (.dic ds) := rfl
@[simp] theorem qVar_dit {ds : List (List Key × PD)} : qVar 0 (.dit ds :: ρ) = some (.dit ds) := rfl
@[simp] theorem qVar_nst {ds : List O} : qVar 0 (.nst ds :: ρ) = some (.nst ds) := rfl
@[simp] theorem qVar_ntp {ds : List O} : qVar 0 (.ntp ds :: ρ) = some (.ntp ds) := rfl
@[simp] theorem qVar_ins {c : Nat} {fs : List (Str × O)} : qVar 0 (.ins c fs :: ρ) = some (.ins c fs) := rfl
@[simp] theorem qVar_dead : qVar 0 (.dead :: ρ) = none := rfl
@[simp] theorem qVar_succ {n : Nat} : qVar (n + 1) (o :: ρ) = qVar n ρ := by
  unfold qVar
  rw [List.getElem?_cons_succ]
@[simp] theorem qC_eq {d : PD} : qC d ρ = some (.fz d) := rfl
@[simp] theorem fzs_nil : fzs [] = some [] := rfl
@[simp] theorem fzs_cons {d : PD} : fzs (.fz d :: ρ) = (fzs ρ).map (d :: ·) := rfl
@[simp] theorem fzs_lst {d : List PD} : fzs (.lst d :: ρ) = none := rfl
@[simp] theorem fzs_dead : fzs (.dead :: ρ) = none := rfl
@[simp] theorem toPD_fz {d : PD} : toPD (.fz d) = some d := rfl
@[simp] theorem toPD_lst {d : List PD} : toPD (.lst d) = some (.list d) := rfl
@[simp] theorem deadN_zero : deadN 0 = [] := rfl
@[simp] theorem deadN_succ {n : Nat} : deadN (n + 1) = .dead :: deadN n := rfl
@[simp] theorem outsE_nil : outsE [] ρ = [] := rfl
@[simp] theorem outsE_t {io : List Bool} : outsE (true :: io) (o :: ρ) = o :: outsE io ρ := rfl
@[simp] theorem outsE_f {io : List Bool} : outsE (false :: io) (o :: ρ) = .dead :: outsE io ρ := rfl
@[simp] theorem fillA_nil : fillA [] [] ρ = some ([], ρ) := rfl
@[simp] theorem fillA_n {as : List (Option Nat)} {xs : List O} : fillA (none :: as) (o :: xs) ρ = (fillA as xs ρ).map fun z => (o :: z.1, z.2) := by
  show (match fillA as xs ρ with | none => none | some z => some (o :: z.1, z.2)) = _
  cases fillA as xs ρ <;> rfl
@[simp] theorem fillA_s {n : Nat} {as : List (Option Nat)} {xs : List O} : fillA (some n :: as) (o :: xs) ρ = (qVar n ρ).bind fun y => (fillA as xs (ρ.set n .dead)).map fun z => (y :: z.1, z.2) := by
  show (match qVar n ρ with | none => none | some y => match fillA as xs (ρ.set n .dead) with | none => none | some z => some (y :: z.1, z.2)) = _
  cases qVar n ρ with
  | none => rfl
  | some y => simp only [Option.bind_some]; cases fillA as xs (ρ.set n .dead) <;> rfl
@[simp] theorem backA_nil {xs : List O} : backA [] xs ρ = ρ := by cases xs <;> rfl
@[simp] theorem backA_n {as : List (Option Nat)} {xs : List O} : backA (none :: as) (o :: xs) ρ = backA as xs ρ := rfl
@[simp] theorem backA_s {n : Nat} {as : List (Option Nat)} {xs : List O} : backA (some n :: as) (o :: xs) ρ = backA as xs (ρ.set n o) := rfl
@[simp] theorem fName_eq {n : Nat} {d : PD} : fName n d ρ = some (ρ.set n (.fz d)) := rfl
@[simp] theorem frzO_eq {n : Nat} : frzO n ρ = match qVar n ρ with
    | some o => match toPD o with
      | some d => ρ.set n (.fz d)
      | none => ρ
    | none => ρ := rfl
/-! operators -/
@[simp] theorem oAdd_i : oAdd (.fz (.int i)) (.fz (.int j)) = some (.fz (.int (i + j))) := rfl
@[simp] theorem oSub_i : oSub (.fz (.int i)) (.fz (.int j)) = some (.fz (.int (i - j))) := rfl
@[simp] theorem oLt_i : oLt (.fz (.int i)) (.fz (.int j)) = some (.fz (.bool (decide (i < j)))) := rfl
@[simp] theorem oLe_i : oLe (.fz (.int i)) (.fz (.int j)) = some (.fz (.bool (decide (i ≤ j)))) := rfl
@[simp] theorem oGt_i : oGt (.fz (.int i)) (.fz (.int j)) = some (.fz (.bool (decide (j < i)))) := rfl
@[simp] theorem oGe_i : oGe (.fz (.int i)) (.fz (.int j)) = some (.fz (.bool (decide (j ≤ i)))) := rfl
@[simp] theorem oNeg_i : oNeg (.fz (.int i)) = some (.fz (.int (-i))) := rfl
theorem oMul_r (h1 : -(2 ^ 64) < j) (h2 : j < 2 ^ 64) : oMul (.fz (.int i)) (.fz (.int j)) = some (.fz (.int (i * j))) := by
  have : cMul i j = true := by
    have hs : small64 j = true := @decide_eq_true _ (Classical.propDecidable _) ⟨h1, h2⟩
    unfold cMul
    rw [hs, Bool.or_true, Bool.true_or]
  simp [oMul, this]
theorem oMul_l (h1 : -(2 ^ 64) < i) (h2 : i < 2 ^ 64) : oMul (.fz (.int i)) (.fz (.int j)) = some (.fz (.int (i * j))) := by
  have : cMul i j = true := by
    have hs : small64 i = true := @decide_eq_true _ (Classical.propDecidable _) ⟨h1, h2⟩
    unfold cMul
    rw [hs, Bool.true_or, Bool.true_or]
  simp [oMul, this]
theorem oDiv_i (h1 : 0 < j) (h2 : j < 2 ^ 200) : oDiv (.fz (.int i)) (.fz (.int j)) = some (.fz (.int (i / j))) := by
  have : cDiv i j = true := by
    unfold cDiv
    have h3 : j.natAbs < 2 ^ 8000 := Nat.lt_of_lt_of_le (by omega : j.natAbs < 2 ^ 200) (Nat.pow_le_pow_right (by decide) (by decide))
    simp [h1, h3]
  simp [oDiv, oI, this]
theorem oMod_i (h1 : 0 < j) : oMod (.fz (.int i)) (.fz (.int j)) = some (.fz (.int (i % j))) := by simp [oMod, oI, h1]
theorem oPow_i (h1 : -(2 ^ 64) < i) (h2 : i < 2 ^ 64) (h3 : 0 ≤ j) (h4 : j ≤ 1000000) : oPow (.fz (.int i)) (.fz (.int j)) = some (.fz (.int (i ^ j.toNat))) := by
  have : cPow i j = true := by
    unfold cPow
    have h5 : i.natAbs < 2 ^ 64 := by omega
    simp [h3, h4, h5]
  simp [oPow, oI, this]
theorem beq_dec (i j : Int) : (i == j) = decide (i = j) := by rw [Bool.eq_iff_iff, beq_iff_eq, decide_eq_true_eq]
@[simp] theorem oEq_i : oEq (.fz (.int i)) (.fz (.int j)) = some (.fz (.bool (decide (i = j)))) := by
  simp [oEq, oEqD, strs2, SeqAt.shaped, PyData.canLay0, PyData.depth, PyData.eqv, beq_dec]
@[simp] theorem oNe_i : oNe (.fz (.int i)) (.fz (.int j)) = some (.fz (.bool (!decide (i = j)))) := by
  simp [oNe, oNeD, strs2, SeqAt.shaped, PyData.canLay0, PyData.depth, PyData.eqv, beq_dec]
@[simp] theorem oAbs_i : oAbs [.fz (.int i)] = some (.fz (.int (if i < 0 then -i else i))) := rfl
@[simp] theorem oMax2_i : oMax2 [.fz (.int i), .fz (.int j)] = some (.fz (.int (if j > i then j else i))) := rfl
@[simp] theorem oMin2_i : oMin2 [.fz (.int i), .fz (.int j)] = some (.fz (.int (if j < i then j else i))) := rfl
@[simp] theorem oInt_b {b : Bool} : oInt [.fz (.bool b)] = some (.fz (.int (if b then 1 else 0))) := rfl
@[simp] theorem oInt_i : oInt [.fz (.int i)] = some (.fz (.int i)) := rfl
@[simp] theorem oLen_l {ds : List PD} : oLen [.fz (.list ds)] = some (.fz (.int ds.length)) := rfl
@[simp] theorem oLen_lst {ds : List PD} : oLen [.lst ds] = some (.fz (.int ds.length)) := rfl
@[simp] theorem oLen_t {ds : List PD} : oLen [.fz (.tuple ds)] = some (.fz (.int ds.length)) := rfl
@[simp] theorem oList_l {ds : List PD} : oList [.fz (.list ds)] = some (.lst ds) := rfl
@[simp] theorem oList_lst {ds : List PD} : oList [.lst ds] = some (.lst ds) := rfl
@[simp] theorem oList_t {ds : List PD} : oList [.fz (.tuple ds)] = some (.lst ds) := rfl
@[simp] theorem oTuple_l {ds : List PD} : oTuple [.fz (.list ds)] = some (.fz (.tuple ds)) := rfl
@[simp] theorem oTuple_lst {ds : List PD} : oTuple [.lst ds] = some (.fz (.tuple ds)) := rfl
@[simp] theorem oTuple_t {ds : List PD} : oTuple [.fz (.tuple ds)] = some (.fz (.tuple ds)) := rfl
@[simp] theorem oIx_l {ds : List PD} : oIx (.fz (.list ds)) (.fz (.int i)) = (atI ds i).map .fz := rfl
@[simp] theorem oIx_lst {ds : List PD} : oIx (.lst ds) (.fz (.int i)) = (atI ds i).map .fz := rfl
@[simp] theorem oIx_t {ds : List PD} : oIx (.fz (.tuple ds)) (.fz (.int i)) = (atI ds i).map .fz := rfl
theorem atI_nn {α : Type} {xs : List α} {i : Int} (h : 0 ≤ i) : atI xs i = xs[i.toNat]? := by
  unfold atI ixN
  rw [if_pos h]
  by_cases h2 : i < xs.length
  · rw [if_pos h2]; rfl
  · rw [if_neg h2, List.getElem?_eq_none (by omega)]; rfl
@[simp] theorem atI_0 {α : Type} {xs : List α} : atI xs 0 = xs[0]? := atI_nn (Int.le_refl 0)
@[simp] theorem atI_1 {α : Type} {xs : List α} : atI xs 1 = xs[1]? := atI_nn (by decide)
@[simp] theorem atI_2 {α : Type} {xs : List α} : atI xs 2 = xs[2]? := atI_nn (by decide)
@[simp] theorem atI_3 {α : Type} {xs : List α} : atI xs 3 = xs[3]? := atI_nn (by decide)
@[simp] theorem atI_4 {α : Type} {xs : List α} : atI xs 4 = xs[4]? := atI_nn (by decide)
@[simp] theorem atI_5 {α : Type} {xs : List α} : atI xs 5 = xs[5]? := atI_nn (by decide)
@[simp] theorem atI_6 {α : Type} {xs : List α} : atI xs 6 = xs[6]? := atI_nn (by decide)
@[simp] theorem atI_7 {α : Type} {xs : List α} : atI xs 7 = xs[7]? := atI_nn (by decide)
@[simp] theorem atI_8 {α : Type} {xs : List α} : atI xs 8 = xs[8]? := atI_nn (by decide)
@[simp] theorem atI_9 {α : Type} {xs : List α} : atI xs 9 = xs[9]? := atI_nn (by decide)
@[simp] theorem atI_10 {α : Type} {xs : List α} : atI xs 10 = xs[10]? := atI_nn (by decide)
@[simp] theorem atI_11 {α : Type} {xs : List α} : atI xs 11 = xs[11]? := atI_nn (by decide)
@[simp] theorem atI_12 {α : Type} {xs : List α} : atI xs 12 = xs[12]? := atI_nn (by decide)
theorem atI_last {α : Type} {xs : List α} (h : xs ≠ []) : atI xs (-1) = xs[xs.length - 1]? := by
  unfold atI ixN
  have : 1 ≤ xs.length := List.length_pos_iff.mpr h
  rw [if_neg (by decide), if_pos (by omega)]
  have e : (-1 + (xs.length : Int)).toNat = xs.length - 1 := by omega
  show xs[(-1 + (xs.length : Int)).toNat]? = _
  rw [e]
@[simp] theorem atI_snoc {α : Type} {xs : List α} {x : α} : atI (xs ++ [x]) (-1) = some x := by
  rw [atI_last (by simp)]
  simp
@[simp] theorem fAppend_eq {ds : List PD} {x : PD} (h : ds.length < sizeLine) : fAppend ds [x] = some (.none, ds ++ [x]) := by simp [fAppend, h]
@[simp] theorem fSetI_i {ds : List PD} {d : PD} : fSetI ds (.int i) d = (ixN ds.length i).map fun n => ds.set n d := rfl
end
/-! words unfold -/
section
variable {ρ : List O} {a b : QE} {c d : List O → Option Bool} {r : List O → Option (List O)}
@[simp] theorem qOp_eq {f : O → O → Option O} : qOp f a b ρ = match a ρ with
    | none => none
    | some x => match b ρ with
      | none => none
      | some y => f x y := rfl
@[simp] theorem qUn_eq {f : O → Option O} : qUn f a ρ = match a ρ with
    | none => none
    | some x => f x := rfl
@[simp] theorem qNil_eq : qNil ρ = some [] := rfl
@[simp] theorem qCons_eq : qCons a r ρ = match a ρ with
    | none => none
    | some x => match r ρ with
      | none => none
      | some xs => some (x :: xs) := rfl
@[simp] theorem qCb_eq {f : List O → Option O} : qCb f r ρ = match r ρ with
    | none => none
    | some xs => f xs := rfl
@[simp] theorem qB_eq : qB a ρ = match a ρ with
    | some (.fz (.bool b)) => some b
    | _ => none := rfl
@[simp] theorem qAnd_eq : qAnd c d ρ = match c ρ with
    | some true => d ρ
    | r => r := rfl
@[simp] theorem qOr_eq : qOr c d ρ = match c ρ with
    | some false => d ρ
    | r => r := rfl
@[simp] theorem qNot_eq : qNot c ρ = match c ρ with
    | some b => some (!b)
    | none => none := rfl
@[simp] theorem qIf_eq : qIf c a b ρ = match c ρ with
    | some true => a ρ
    | some false => b ρ
    | none => none := rfl
@[simp] theorem qFz_eq : qFz a ρ = match a ρ with
    | some o => (toPD o).map .fz
    | none => none := rfl
@[simp] theorem qLst_eq : qLst r ρ = match r ρ with
    | none => none
    | some os => match fzs os with
      | some ds => if ds.length ≤ sizeLine then some (.lst ds) else none
      | none => none := rfl
@[simp] theorem qTup_eq : qTup r ρ = match r ρ with
    | none => none
    | some os => match fzs os with
      | some ds => if ds.length ≤ sizeLine then some (.fz (.tuple ds)) else none
      | none => none := rfl
@[simp] theorem qIfA_eq : qIfA a ρ = match a ρ with
    | none => none
    | some x => fzA x := rfl
@[simp] theorem fzA_l {ds : List PD} : fzA (.fz (.list ds)) = some ds := rfl
@[simp] theorem fzA_t {ds : List PD} : fzA (.fz (.tuple ds)) = some ds := rfl
@[simp] theorem qRng1_eq : qRng1 r ρ = match r ρ with
    | some [.fz (.int j)] => if big62 j then some (rngD 0 j.toNat) else none
    | _ => none := rfl
@[simp] theorem qLrg1_eq : qLrg1 a ρ = match a ρ with
    | some (.fz (.int n)) => if big62 n && decide (n.toNat ≤ 2 ^ 24) then some (.lst (rngD 0 n.toNat)) else none
    | _ => none := rfl
@[simp] theorem qIsi_eq {n : String} : qIsi n a ρ = match a ρ with
    | none => none
    | some x => match toPD x with
      | none => none
      | some d => (isTy n d).map fun b => .fz (.bool b) := rfl
theorem isTy_by {n m : String} {d : PD} {r : Option Bool} (h : tyS d = m) (e : kitB m n = r) : isTy n d = r := by rw [isTy, h, e]
@[simp] theorem isTy_none_int : isTy "int" .none = some false := isTy_by (m := "NoneType") (d := .none) rfl (by decide +kernel)
@[simp] theorem isTy_none_bool : isTy "bool" .none = some false := isTy_by (m := "NoneType") (d := .none) rfl (by decide +kernel)
@[simp] theorem isTy_none_str : isTy "str" .none = some false := isTy_by (m := "NoneType") (d := .none) rfl (by decide +kernel)
@[simp] theorem isTy_none_list : isTy "list" .none = some false := isTy_by (m := "NoneType") (d := .none) rfl (by decide +kernel)
@[simp] theorem isTy_none_tuple : isTy "tuple" .none = some false := isTy_by (m := "NoneType") (d := .none) rfl (by decide +kernel)
@[simp] theorem isTy_none_dict : isTy "dict" .none = some false := isTy_by (m := "NoneType") (d := .none) rfl (by decide +kernel)
@[simp] theorem isTy_bool_int {b : Bool} : isTy "int" (.bool b) = some true := isTy_by (m := "bool") (d := (.bool b)) rfl (by decide +kernel)
@[simp] theorem isTy_bool_bool {b : Bool} : isTy "bool" (.bool b) = some true := isTy_by (m := "bool") (d := (.bool b)) rfl (by decide +kernel)
@[simp] theorem isTy_bool_str {b : Bool} : isTy "str" (.bool b) = some false := isTy_by (m := "bool") (d := (.bool b)) rfl (by decide +kernel)
@[simp] theorem isTy_bool_list {b : Bool} : isTy "list" (.bool b) = some false := isTy_by (m := "bool") (d := (.bool b)) rfl (by decide +kernel)
@[simp] theorem isTy_bool_tuple {b : Bool} : isTy "tuple" (.bool b) = some false := isTy_by (m := "bool") (d := (.bool b)) rfl (by decide +kernel)
@[simp] theorem isTy_bool_dict {b : Bool} : isTy "dict" (.bool b) = some false := isTy_by (m := "bool") (d := (.bool b)) rfl (by decide +kernel)
@[simp] theorem isTy_int_int {i : Int} : isTy "int" (.int i) = some true := isTy_by (m := "int") (d := (.int i)) rfl (by decide +kernel)
@[simp] theorem isTy_int_bool {i : Int} : isTy "bool" (.int i) = some false := isTy_by (m := "int") (d := (.int i)) rfl (by decide +kernel)
@[simp] theorem isTy_int_str {i : Int} : isTy "str" (.int i) = some false := isTy_by (m := "int") (d := (.int i)) rfl (by decide +kernel)
@[simp] theorem isTy_int_list {i : Int} : isTy "list" (.int i) = some false := isTy_by (m := "int") (d := (.int i)) rfl (by decide +kernel)
@[simp] theorem isTy_int_tuple {i : Int} : isTy "tuple" (.int i) = some false := isTy_by (m := "int") (d := (.int i)) rfl (by decide +kernel)
@[simp] theorem isTy_int_dict {i : Int} : isTy "dict" (.int i) = some false := isTy_by (m := "int") (d := (.int i)) rfl (by decide +kernel)
@[simp] theorem isTy_str_int {x : Str} : isTy "int" (.str x) = some false := isTy_by (m := "str") (d := (.str x)) rfl (by decide +kernel)
@[simp] theorem isTy_str_bool {x : Str} : isTy "bool" (.str x) = some false := isTy_by (m := "str") (d := (.str x)) rfl (by decide +kernel)
@[simp] theorem isTy_str_str {x : Str} : isTy "str" (.str x) = some true := isTy_by (m := "str") (d := (.str x)) rfl (by decide +kernel)
@[simp] theorem isTy_str_list {x : Str} : isTy "list" (.str x) = some false := isTy_by (m := "str") (d := (.str x)) rfl (by decide +kernel)
@[simp] theorem isTy_str_tuple {x : Str} : isTy "tuple" (.str x) = some false := isTy_by (m := "str") (d := (.str x)) rfl (by decide +kernel)
@[simp] theorem isTy_str_dict {x : Str} : isTy "dict" (.str x) = some false := isTy_by (m := "str") (d := (.str x)) rfl (by decide +kernel)
@[simp] theorem isTy_list_int {ds : List PD} : isTy "int" (.list ds) = some false := isTy_by (m := "list") (d := (.list ds)) rfl (by decide +kernel)
@[simp] theorem isTy_list_bool {ds : List PD} : isTy "bool" (.list ds) = some false := isTy_by (m := "list") (d := (.list ds)) rfl (by decide +kernel)
@[simp] theorem isTy_list_str {ds : List PD} : isTy "str" (.list ds) = some false := isTy_by (m := "list") (d := (.list ds)) rfl (by decide +kernel)
@[simp] theorem isTy_list_list {ds : List PD} : isTy "list" (.list ds) = some true := isTy_by (m := "list") (d := (.list ds)) rfl (by decide +kernel)
@[simp] theorem isTy_list_tuple {ds : List PD} : isTy "tuple" (.list ds) = some false := isTy_by (m := "list") (d := (.list ds)) rfl (by decide +kernel)
@[simp] theorem isTy_list_dict {ds : List PD} : isTy "dict" (.list ds) = some false := isTy_by (m := "list") (d := (.list ds)) rfl (by decide +kernel)
@[simp] theorem isTy_tuple_int {ds : List PD} : isTy "int" (.tuple ds) = some false := isTy_by (m := "tuple") (d := (.tuple ds)) rfl (by decide +kernel)
@[simp] theorem isTy_tuple_bool {ds : List PD} : isTy "bool" (.tuple ds) = some false := isTy_by (m := "tuple") (d := (.tuple ds)) rfl (by decide +kernel)
@[simp] theorem isTy_tuple_str {ds : List PD} : isTy "str" (.tuple ds) = some false := isTy_by (m := "tuple") (d := (.tuple ds)) rfl (by decide +kernel)
@[simp] theorem isTy_tuple_list {ds : List PD} : isTy "list" (.tuple ds) = some false := isTy_by (m := "tuple") (d := (.tuple ds)) rfl (by decide +kernel)
@[simp] theorem isTy_tuple_tuple {ds : List PD} : isTy "tuple" (.tuple ds) = some true := isTy_by (m := "tuple") (d := (.tuple ds)) rfl (by decide +kernel)
@[simp] theorem isTy_tuple_dict {ds : List PD} : isTy "dict" (.tuple ds) = some false := isTy_by (m := "tuple") (d := (.tuple ds)) rfl (by decide +kernel)
@[simp] theorem isTy_dict_int {ds : List (PD × PD)} : isTy "int" (.dict ds) = some false := isTy_by (m := "dict") (d := (.dict ds)) rfl (by decide +kernel)
@[simp] theorem isTy_dict_bool {ds : List (PD × PD)} : isTy "bool" (.dict ds) = some false := isTy_by (m := "dict") (d := (.dict ds)) rfl (by decide +kernel)
@[simp] theorem isTy_dict_str {ds : List (PD × PD)} : isTy "str" (.dict ds) = some false := isTy_by (m := "dict") (d := (.dict ds)) rfl (by decide +kernel)
@[simp] theorem isTy_dict_list {ds : List (PD × PD)} : isTy "list" (.dict ds) = some false := isTy_by (m := "dict") (d := (.dict ds)) rfl (by decide +kernel)
@[simp] theorem isTy_dict_tuple {ds : List (PD × PD)} : isTy "tuple" (.dict ds) = some false := isTy_by (m := "dict") (d := (.dict ds)) rfl (by decide +kernel)
@[simp] theorem isTy_dict_dict {ds : List (PD × PD)} : isTy "dict" (.dict ds) = some true := isTy_by (m := "dict") (d := (.dict ds)) rfl (by decide +kernel)
end
/-! data that can be shown -/
theorem ofs_len (s : String) : (Str.ofString s).length = s.length := PySem.ofString_length s
structure Fine (h n : Nat) (d : PD) : Prop where
  lay : d.canLay0 = true
  dep : d.depth ≤ h
  sh : d.showable = true
  len : d.shown.length ≤ n
structure FineA (h n : Nat) (ds : List PD) : Prop where
  lay : PyData.canLayAll0 ds = true
  dep : PyData.depthAll ds ≤ h
  sh : PyData.showableAll ds = true
  len : piled (PyData.shownAll ds) ≤ n
theorem Fine.mono {h n h' n' : Nat} {d : PD} (f : Fine h n d) (a : h ≤ h') (b : n ≤ n') : Fine h' n' d := ⟨f.lay, Nat.le_trans f.dep a, f.sh, Nat.le_trans f.len b⟩
theorem Fine.int {i : Int} (h : i.natAbs < 2 ^ 64) : Fine 0 21 (.int i) := by
  refine ⟨by simp [PyData.canLay0], by simp [PyData.depth], ?_, ?_⟩
  · have : i.natAbs.log2 < 1920 := PySem.Spec.log2_small (Nat.lt_of_lt_of_le h (Nat.pow_le_pow_right (by decide) (by decide)))
    simp [PyData.showable, this]
  · rw [PyData.shown_int]
    exact Nat.le_trans (Nat.le_of_eq (ofs_len _)) (int_text_length_le10 (k := 20) (by decide) (Nat.lt_of_lt_of_le h (by decide)))
theorem FineA.nil {h : Nat} : FineA h 0 [] := ⟨by simp [PyData.canLayAll0], by simp [PyData.depthAll], by simp [PyData.showableAll], by simp [PyData.shownAll, piled]⟩
theorem FineA.cons {h n m : Nat} {d : PD} {ds : List PD} (a : Fine h n d) (b : FineA h m ds) : FineA h (n + 2 + m) (d :: ds) := by
  refine ⟨by simp [PyData.canLayAll0, a.lay, b.lay], ?_, by simp [PyData.showableAll, a.sh, b.sh], ?_⟩
  · have h1 := a.dep
    have h2 := b.dep
    simp [PyData.depthAll]
    omega
  · have h1 := a.len
    have h2 := b.len
    rw [PyData.shownAll_cons, piled_cons]
    omega
theorem FineA.all {h n : Nat} : ∀ {ds : List PD}, (∀ d ∈ ds, Fine h n d) → FineA h (ds.length * (n + 2)) ds
  | [], _ => by rw [List.length_nil, Nat.zero_mul]; exact .nil
  | d :: ds, f => by
    have := FineA.cons (f d List.mem_cons_self) (FineA.all fun x m => f x (List.mem_cons_of_mem _ m))
    rw [List.length_cons, Nat.succ_mul, Nat.add_comm (ds.length * (n + 2))]
    exact this
theorem join_le (ts : List Str) : (Str.join ", " ts).length ≤ piled ts := by
  by_cases h : ts = []
  · subst h
    decide
  · have := join_length_add ts h
    omega
theorem FineA.list {h n : Nat} {ds : List PD} (a : FineA h n ds) : Fine (h + 1) (n + 2) (.list ds) := by
  refine ⟨by simp [PyData.canLay0, a.lay], by have := a.dep; simp [PyData.depth]; omega, by simp [PyData.showable, a.sh], ?_⟩
  have h1 := a.len
  have h2 := join_le (PyData.shownAll ds)
  rw [PyData.shown_list, strLen_append, strLen_append]
  have e1 : ("[" : Str).length = 1 := by decide
  have e2 : ("]" : Str).length = 1 := by decide
  omega
theorem FineA.tuple {h n : Nat} {ds : List PD} (a : FineA h n ds) : Fine (h + 1) (n + 3) (.tuple ds) := by
  refine ⟨by simp [PyData.canLay0, a.lay], by have := a.dep; simp [PyData.depth]; omega, by simp [PyData.showable, a.sh], ?_⟩
  have h1 := a.len
  have h2 := join_le (PyData.shownAll ds)
  rw [PyData.shown_tuple, strLen_append, strLen_append]
  have e1 : ("(" : Str).length = 1 := by decide
  have e2 : ((if ds.length == 1 then ",)" else ")" : String) : Str).length ≤ 2 := by
    split <;> decide
  omega
theorem Fine.shaped {h n : Nat} {d : PD} (f : Fine h n d) (a : h ≤ 64) : SeqAt.shaped d = true := by
  unfold SeqAt.shaped
  rw [f.lay, decide_eq_true (Nat.le_trans f.dep a)]
  rfl
theorem oStr_seq {h n : Nat} {d : PD} (f : Fine h n d) (a : h ≤ 64) (b : n ≤ sizeLine) (s : isSeqD d = true) : oStr [.fz d] = some (.fz (.str d.shown)) := by
  have e1 := f.shaped a
  have e2 := PyData.hasDict_of_canLay d f.lay
  have e3 : d.shown.length ≤ sizeLine := Nat.le_trans f.len b
  cases d with
  | list ds => simp [oStr, s, e1, e2, e3, f.sh]
  | tuple ds => simp [oStr, s, e1, e2, e3, f.sh]
  | _ => cases s
end FM
namespace FM
open PySem PySem.Spec L2 PyProof.Rows
/-! ### comprehensions whose items may have effects -/
theorem Envs.unset {k : Kc} {F H : Hp} : ∀ {σ : L2.St} {ρ : List O} {S : List Addr} (j : Nat), Envs k F H (σ.set j none) ρ S → Envs k F H σ ρ S
  | [], _, _, _, h => by simpa using h
  | x :: σ, _, _, 0, h => by
    cases h with
    | dead r => exact .dead r
  | x :: σ, _, _, j + 1, h => by
    have h' : Envs k F H (x :: σ.set j none) _ _ := h
    cases h' with
    | dead r => exact .dead (Envs.unset j r)
    | cons w r => exact .cons w (Envs.unset j r)
theorem Envs.unwipe {k : Kc} {F H : Hp} {σ : L2.St} : ∀ {vs : List Nat} {ρ : List O} {S : List Addr}, Envs k F H (L2.wipe σ vs) ρ S → Envs k F H σ ρ S
  | [], _, _, h => h
  | v :: vs, _, _, h => Envs.unwipe (vs := vs) (Envs.unset v h)
theorem Envs.wipeS {k : Kc} {F H : Hp} {σ : L2.St} {ρ : List O} {S : List Addr} (h : Envs k F H σ ρ S) : ∀ vs : List Nat, ∃ S', S'.Sublist S ∧ Envs k F H (L2.wipe σ vs) (wipeO ρ vs) S'
  | [] => ⟨S, .refl _, h⟩
  | v :: vs => by
    obtain ⟨S1, m1, h1⟩ := Envs.wipeS h vs
    obtain ⟨S2, m2, h2⟩ := Envs.setD (v := none) v h1
    exact ⟨S2, m2.trans m1, h2⟩
def lcGoM (f : QG) (c : M Bool) (e : M O) (vs : List Nat) : List PD → List PD → List O → R (List PD)
  | [], acc, ρ => .ok acc ρ
  | x :: xs, acc, ρ => match f x ρ with
    | none => .bad
    | some ρ1 => match c ρ1 with
      | .ok false ρ2 => lcGoM f c e vs xs acc (wipeO ρ2 vs)
      | .ok true ρ2 => match e ρ2 with
        | .ok (.fz d) ρ3 => if acc.length < sizeLine then lcGoM f c e vs xs (acc ++ [d]) (wipeO ρ3 vs) else .bad
        | _ => .bad
      | _ => .bad
def mLc (mi : M (List PD)) (f : QG) (c : M Bool) (e : M O) (vs : List Nat) : M O := fun ρ => match mi ρ with
  | .ok ds ρ1 => match lcGoM f c e vs ds [] (wipeO ρ1 vs) with
    | .ok acc ρ2 => .ok (.lst acc) ρ2
    | _ => .bad
  | .exc x ρ1 => .exc x ρ1
  | .bad => .bad
def bYes : M Bool := fun ρ => .ok true ρ
section
variable {k : Kc} {E : XK}
theorem ttm_yes : TTm k E tYes bYes := fun P e σ ρ vs os H Q s g => g H s
/-- an own list on top grows -/
theorem St.grow {P : List (Nat × V)} {e : Ent} {σ : L2.St} {ρ : List O} {vs : List V} {os : List O} {H : Hp} {y : V} {d : PD} {D : Addr} {acc : List PD} (s : St k P e σ ρ (y :: .ref D :: vs) (.fz d :: .lst acc :: os) H) :
    ∃ ws, H D = some (.lst ws) ∧ ws.length = acc.length ∧ St k P e σ ρ (.ref D :: vs) (.lst (acc ++ [d]) :: os) (upd H D (.lst (ws ++ [y]))) := by
  obtain ⟨F, S1, S2, s⟩ := s
  obtain ⟨rd, s⟩ := s.top
  obtain ⟨env, tmp, fr, pin⟩ := s
  cases tmp with
  | @cons _ _ _ _ T U w r =>
    cases w with
    | @lst a ws _ h rr =>
      have fr' : Fr e F H (D :: (S1 ++ U)) := Sbp.fr fr (.of_count fun b => by
        simp only [List.count_append, List.count_cons, List.count_nil]
        omega)
      have hD : H D = some (.lst ws) := by
        rcases h with h | ⟨ob, h⟩
        · exact h
        · exact (fr'.nofz D List.mem_cons_self ob _ h).elim
      have nd := List.nodup_cons.mp fr'.nd
      have at_ : ∀ Z : List Addr, (∀ b ∈ Z, b ∈ S1 ++ U) → At Z H (upd H D (.lst (ws ++ [y]))) := fun Z m b mb u z => by
        rw [upd_ne (fun q => nd.1 (by rw [← q]; exact m b mb))]
        exact z
      have fw := fr'.write (a := D) (o := .lst (ws ++ [y])) List.mem_cons_self (fun _ _ z => by cases z)
      refine ⟨ws, hD, rr.length, F, S1, [D] ++ U, env.mono (Same.refl F) (at_ S1 fun b m => List.mem_append_left _ m), .cons (.lst (.inl upd_same) (rr.append (.cons rd .nil))) (r.mono (Same.refl F) (at_ U fun b m => List.mem_append_right _ m)), Sbp.fr fw (.of_count fun b => ?_), pin⟩
      simp only [List.count_append, List.count_cons, List.count_nil]
      omega
theorem tem_lc {wi : TI} {g : TG} {tt : TT} {te : TE} {vs : List Nat} {mi : M (List PD)} {f : QG} {c : M Bool} {me : M O} {J : List Nat} (hi : TIm k E wi mi) (hg : TGq k g f J) (hJ : J.all fun j => vs.contains j) (ht : TTm k E0 tt c) (he : TEm k E0 te me) :
    TEm k E (tLc wi g tt te vs) (mLc mi f c me vs) := by
  have hJ' : ∀ j ∈ J, j ∈ vs := fun j m => by simpa using List.all_eq_true.mp hJ j m
  intro P e σ ρ ws os H Q s gg
  refine hi P e σ ρ ws os H _ s ?_
  unfold mLc at gg
  cases e1 : mi ρ with
  | exc x ρ1 => rw [e1] at gg; exact gg
  | bad => rw [e1] at gg; exact gg
  | ok ds ρ1 =>
    rw [e1] at gg
    simp only at gg
    intro It F H1 S1 S2 s1 W D hD
    let e' : Ent := ⟨F, H1, S1 ++ S2⟩
    have f0 : Fr e F H1 (S1 ++ S2) := s1.fr
    cases e2 : lcGoM f c me vs ds [] (wipeO ρ1 vs) with
    | exc x ρ2 => rw [e2] at gg; exact gg.elim
    | bad => rw [e2] at gg; exact gg.elim
    | ok ys ρ2 =>
      rw [e2] at gg
      simp only at gg
      have rewipe : ∀ {σ2 : L2.St} {ρ2 : List O} {zs : List V} {xs : List O} {H2 : Hp}, St k [] e' σ2 ρ2 zs xs H2 → L2.wipe σ2 vs = L2.wipe σ vs → St k [] e' (L2.wipe σ vs) (wipeO ρ2 vs) zs xs H2 := fun {σ2 ρ2 zs xs H2} s ew => by
        obtain ⟨F2, T1, T2, env, tmp, fr, _⟩ := s
        obtain ⟨T', m, q⟩ := env.wipeS vs
        rw [ew] at q
        exact ⟨F2, T', T2, q, tmp, fr.sub (List.Sublist.append m (.refl _)), fun p m => by cases m⟩
      have sD : St k [] e' (L2.wipe σ vs) (wipeO ρ1 vs) (.ref D :: ws) (.lst [] :: os) (upd H1 D (.lst [])) := by
        refine rewipe (σ2 := σ) ?_ rfl
        have s1' : StW k [] e' σ ρ1 ws os F H1 S1 S2 := ⟨s1.env, s1.tmp, s1.fr.refl, fun p m => by cases m⟩
        exact s1'.pushN hD (fun _ _ z => by cases z) (.lst (.inl upd_same) .nil)
      refine ⟨fun i m H => m = ds.length - i ∧ i ≤ ds.length ∧ ∃ acc ρi, St k [] e' (L2.wipe σ vs) ρi (.ref D :: ws) (.lst acc :: os) H ∧ lcGoM f c me vs (ds.drop i) acc ρi = .ok ys ρ2, ⟨_, rfl, Nat.zero_le _, [], _, sD, by simpa using e2⟩, ?_⟩
      rintro i m H2 ⟨rfl, hi2, acc, ρi, s2, g2⟩
      by_cases hlt : i < ds.length
      · obtain ⟨F2, T1, T2, s2⟩ := s2
        refine .inr ⟨W.goes i F2 H2 hlt s2.fr.f0 s2.fr.fle, fun H' => i + 1 ≤ ds.length ∧ ∃ acc ρi, St k [] e' (L2.wipe σ vs) ρi (.ref D :: ws) (.lst acc :: os) H' ∧ lcGoM f c me vs (ds.drop (i + 1)) acc ρi = .ok ys ρ2, fun H' z => ⟨_, by omega, rfl, z.1, z.2⟩, fun x H3 y => ?_⟩
        obtain ⟨F3, x3, rx⟩ := W.yields i F2 H2 x H3 hlt s2.fr.f0 s2.fr.fle y
        rw [List.drop_eq_getElem_cons hlt] at g2
        unfold lcGoM at g2
        cases e6 : f ds[i] ρi with
        | none => rw [e6] at g2; cases g2
        | some ρ4 =>
          simp only [e6] at g2
          have s3 : StW k [] e' (L2.wipe σ vs) ρi (.ref D :: ws) (.lst acc :: os) F3 H3 T1 T2 := s2.xt x3
          refine hg F3 H3 _ ρi ρ4 T1 x ds[i] _ s3.qs rx e6 fun σ4 S' q' m' ag => ?_
          have ew : L2.wipe σ4 vs = L2.wipe σ vs := by rw [ag.wipe hJ']; exact wipe_wipe vs vs fun _ z => z
          have s4 : St k [] e' σ4 ρ4 (.ref D :: ws) (.lst acc :: os) H3 := ⟨F3, S', T2, q'.env, s3.tmp, s3.fr.sub (List.Sublist.append m' (.refl _)), fun p m => by cases m⟩
          refine ⟨ew, ht [] e' σ4 ρ4 _ _ H3 _ s4 ?_⟩
          cases e7 : c ρ4 with
          | exc x5 ρ5 => simp only [e7] at g2; cases g2
          | bad => simp only [e7] at g2; cases g2
          | ok b ρ5 =>
            simp only [e7] at g2
            intro H5 s5
            cases b with
            | false =>
              rw [if_neg (by decide)]
              exact ⟨hlt, acc, _, rewipe s5 ew, g2⟩
            | true =>
              rw [if_pos rfl]
              simp only at g2
              refine he [] e' σ4 ρ5 _ _ H5 _ s5 ?_
              cases e8 : me ρ5 with
              | exc x6 ρ6 => simp only [e8] at g2; cases g2
              | bad => simp only [e8] at g2; cases g2
              | ok o6 ρ6 =>
                simp only [e8] at g2
                intro v H6 s6
                cases o6 with
                | fz d =>
                  simp only at g2
                  split at g2
                  · rename_i hz
                    obtain ⟨zs, z1, z2, z3⟩ := s6.grow
                    exact ⟨zs, z1, by omega, hlt, acc ++ [d], _, rewipe z3 ew, g2⟩
                  · cases g2
                | _ => cases g2
      · have ei : i = ds.length := by omega
        subst ei
        obtain ⟨F2, T1, T2, s2⟩ := s2
        refine .inl ⟨W.stops F2 H2 s2.fr.f0 s2.fr.fle, ?_⟩
        rw [List.drop_length] at g2
        unfold lcGoM at g2
        cases g2
        exact gg (.ref D) H2 ⟨F2, T1, T2, s2.env.unwipe, s2.tmp, f0.trans s2.fr, s1.pin⟩
end
end FM
namespace FM
open PySem PySem.Spec L2 PyProof.Rows
/-! ### all, any, sum, max, min, sorted of a list -/
def boolsD : List PD → Option (List Bool)
  | [] => some []
  | .bool b :: r => (boolsD r).map (b :: ·)
  | _ => none
def intsD : List PD → Option (List Int)
  | [] => some []
  | .int b :: r => (intsD r).map (b :: ·)
  | _ => none
theorem boolsD_eq : ∀ {ds : List PD} {bs : List Bool}, boolsD ds = some bs → ds = bs.map .bool
  | [], bs, e => by cases e; rfl
  | .bool b :: r, bs, e => by
    obtain ⟨z, e1, e2⟩ := Option.map_eq_some_iff.mp (show (boolsD r).map (b :: ·) = some bs from e)
    subst e2
    rw [boolsD_eq e1]
    rfl
theorem intsD_eq : ∀ {ds : List PD} {bs : List Int}, intsD ds = some bs → ds = bs.map .int
  | [], bs, e => by cases e; rfl
  | .int b :: r, bs, e => by
    obtain ⟨z, e1, e2⟩ := Option.map_eq_some_iff.mp (show (intsD r).map (b :: ·) = some bs from e)
    subst e2
    rw [intsD_eq e1]
    rfl
@[simp] theorem boolsD_map (bs : List Bool) : boolsD (bs.map .bool) = some bs := by
  induction bs with
  | nil => rfl
  | cons b bs ih => rw [List.map_cons]; show (boolsD _).map _ = _; rw [ih]; rfl
@[simp] theorem intsD_map (bs : List Int) : intsD (bs.map .int) = some bs := by
  induction bs with
  | nil => rfl
  | cons b bs ih => rw [List.map_cons]; show (intsD _).map _ = _; rw [ih]; rfl
theorem reps_bools {K : Frag} {F : Hp} : ∀ {bs : List Bool} {vs : List V}, Reps K F vs (bs.map .bool) → vs = bs.map V.bl
  | [], _, .nil => rfl
  | b :: bs, _, .cons w r => by
    rw [reps_bools r]
    cases w with
    | bl => rfl
    | dic _ _ e => cases e
    | dit _ _ e => cases e
theorem reps_ints {K : Frag} {F : Hp} : ∀ {bs : List Int} {vs : List V}, Reps K F vs (bs.map .int) → vs = bs.map V.int
  | [], _, .nil => rfl
  | b :: bs, _, .cons w r => by
    rw [reps_ints r]
    cases w with
    | int => rfl
    | dic _ _ e => cases e
    | dit _ _ e => cases e
def oBools (g : List Bool → Bool) : List O → Option O
  | [x] => match seqL x with
    | some ds => (boolsD ds).map fun bs => .fz (.bool (g bs))
    | none => none
  | _ => none
def oInts (g : List Int → Option PD) : List O → Option O
  | [x] => match seqL x with
    | some ds => match intsD ds with
      | some ns => (g ns).map .fz
      | none => none
    | none => none
  | _ => none
def oAll := oBools fun bs => bs.all id
def oAny := oBools fun bs => bs.any id
def oSum := oInts fun ns => some (.int ns.sum)
def maxI : List Int → Int
  | [] => 0
  | [x] => x
  | x :: y :: r => max x (maxI (y :: r))
def minI : List Int → Int
  | [] => 0
  | [x] => x
  | x :: y :: r => min x (minI (y :: r))
theorem maxI_is : ∀ {ns : List Int}, ns ≠ [] → maxI ns ∈ ns ∧ ∀ y ∈ ns, y ≤ maxI ns
  | [], h => absurd rfl h
  | [x], _ => by simp [maxI]
  | x :: y :: r, _ => by
    obtain ⟨h1, h2⟩ := maxI_is (ns := y :: r) (by simp)
    have e : maxI (x :: y :: r) = max x (maxI (y :: r)) := rfl
    rw [e]
    refine ⟨?_, fun z m => ?_⟩
    · rcases Int.le_total x (maxI (y :: r)) with l | l
      · rw [Int.max_eq_right l]; exact List.mem_cons_of_mem _ h1
      · rw [Int.max_eq_left l]; exact List.mem_cons_self
    · rcases List.mem_cons.mp m with m | m
      · rw [m]; exact Int.le_max_left _ _
      · exact Int.le_trans (h2 z m) (Int.le_max_right _ _)
theorem minI_is : ∀ {ns : List Int}, ns ≠ [] → minI ns ∈ ns ∧ ∀ y ∈ ns, minI ns ≤ y
  | [], h => absurd rfl h
  | [x], _ => by simp [minI]
  | x :: y :: r, _ => by
    obtain ⟨h1, h2⟩ := minI_is (ns := y :: r) (by simp)
    have e : minI (x :: y :: r) = min x (minI (y :: r)) := rfl
    rw [e]
    refine ⟨?_, fun z m => ?_⟩
    · rcases Int.le_total x (minI (y :: r)) with l | l
      · rw [Int.min_eq_left l]; exact List.mem_cons_self
      · rw [Int.min_eq_right l]; exact List.mem_cons_of_mem _ h1
    · rcases List.mem_cons.mp m with m | m
      · rw [m]; exact Int.min_le_left _ _
      · exact Int.le_trans (Int.min_le_right _ _) (h2 z m)
def oMax1 := oInts fun ns => if ns = [] then none else some (.int (maxI ns))
def oMin1 := oInts fun ns => if ns = [] then none else some (.int (minI ns))
section
variable {k : Kc}
theorem bools_ok {F H : Hp} {S : List Addr} {g : List Bool → Bool} {xs : List V} {os : List O} {o : O} (f : FLe F H) (ws : Vws k F H S xs os) (e : oBools g os = some o) : ∃ a bs, xs = [.ref a] ∧ SqL k.K H a (bs.map V.bl) ∧ o = .fz (.bool (g bs)) := by
  unfold oBools at e
  split at e
  · cases ws with
    | cons w ws =>
      cases ws
      split at e
      · rename_i ds es
        obtain ⟨bs, e1, e2⟩ := Option.map_eq_some_iff.mp e
        obtain ⟨a, vs, rfl, g1, g2⟩ := w.seqL f es
        have e3 := boolsD_eq e1
        subst e3
        rw [reps_bools g2] at g1
        exact ⟨a, bs, rfl, g1, e2.symm⟩
      · cases e
  · cases e
theorem ints_ok {F H : Hp} {S : List Addr} {g : List Int → Option PD} {xs : List V} {os : List O} {o : O} (f : FLe F H) (ws : Vws k F H S xs os) (e : oInts g os = some o) : ∃ a bs d, xs = [.ref a] ∧ SqL k.K H a (bs.map V.int) ∧ g bs = some d ∧ o = .fz d := by
  unfold oInts at e
  split at e
  · cases ws with
    | cons w ws =>
      cases ws
      split at e
      · rename_i ds es
        split at e
        · rename_i bs e1
          obtain ⟨d, e2, e4⟩ := Option.map_eq_some_iff.mp e
          obtain ⟨a, vs, rfl, g1, g2⟩ := w.seqL f es
          have e3 := intsD_eq e1
          subst e3
          rw [reps_ints g2] at g1
          exact ⟨a, bs, d, rfl, g1, e2, e4.symm⟩
        · cases e
      · cases e
  · cases e
theorem cb_all : CbV k (rAll k.K) oAll := by
  intro F H S xs os o Q f off th ws e h
  obtain ⟨a, bs, e1, e2, e3⟩ := bools_ok f ws e
  subst e3
  exact ⟨a, bs, e1, e2, h _ F H (Xt.refl f) (.fz (.bl _))⟩
theorem cb_any : CbV k (rAny k.K) oAny := by
  intro F H S xs os o Q f off th ws e h
  obtain ⟨a, bs, e1, e2, e3⟩ := bools_ok f ws e
  subst e3
  exact ⟨a, bs, e1, e2, h _ F H (Xt.refl f) (.fz (.bl _))⟩
theorem cb_sum : CbV k (rSum k.K) oSum := by
  intro F H S xs os o Q f off th ws e h
  obtain ⟨a, bs, d, e1, e2, e3, e4⟩ := ints_ok f ws e
  cases e3
  subst e4
  exact ⟨a, bs, e1, e2, h _ F H (Xt.refl f) (.fz (.int _))⟩
theorem cb_max1 : CbV k (rMax k.K) oMax1 := by
  intro F H S xs os o Q f off th ws e h
  obtain ⟨a, bs, d, e1, e2, e3, e4⟩ := ints_ok f ws e
  split at e3
  · cases e3
  · rename_i hne
    cases e3
    subst e4
    refine ⟨a, bs, e1, e2, List.length_pos_iff.mpr hne, fun m m1 m2 => ?_⟩
    obtain ⟨h1, h2⟩ := maxI_is hne
    rw [Int.le_antisymm (h2 m m1) (m2 _ h1)]
    exact h _ F H (Xt.refl f) (.fz (.int _))
theorem cb_min1 : CbV k (rMin k.K) oMin1 := by
  intro F H S xs os o Q f off th ws e h
  obtain ⟨a, bs, d, e1, e2, e3, e4⟩ := ints_ok f ws e
  split at e3
  · cases e3
  · rename_i hne
    cases e3
    subst e4
    refine ⟨a, bs, e1, e2, List.length_pos_iff.mpr hne, fun m m1 m2 => ?_⟩
    obtain ⟨h1, h2⟩ := minI_is hne
    rw [Int.le_antisymm (m2 _ h1) (h2 m m1)]
    exact h _ F H (Xt.refl f) (.fz (.int _))
end
end FM
namespace FM
open PySem PySem.Spec L2 PyProof.Rows
/-! ### zip of two lists, of two tuples; enumerate of a list -/
def pairD (a b : PD) : PD := .tuple [a, b]
def zipD (ds es : List PD) : List PD := List.zipWith pairD ds es
theorem zip_at {ds es : List PD} {i : Nat} (h : i < (zipD ds es).length) : ∃ (h1 : i < ds.length) (h2 : i < es.length), (zipD ds es)[i] = pairD ds[i] es[i] := by
  have h' : i < min ds.length es.length := by simpa [zipD] using h
  exact ⟨by omega, by omega, by simp [zipD]⟩
section
variable {k : Kc} {P : Hp → Hp → Prop} {a b : Addr} {vs ws : List V} {ds es : List PD}
theorem pair_new {F H : Hp} {T : Addr} {x y : V} {d e : PD} (f : FLe F H) (hT : H T = none) (r1 : Rep k.K F x d) (r2 : Rep k.K F y e) : ∃ F', Xt F H F' (upd H T (.tup [x, y])) ∧ Rep k.K F' (.ref T) (pairD d e) :=
  ⟨_, Xt.new f hT, .tup upd_same (.cons (r1.sub (Xt.new f hT).sub) (.cons (r2.sub (Xt.new f hT).sub) .nil))⟩
theorem walkD_zip (hs : ∀ F H, P F H → FLe F H → SqL k.K H a vs ∧ Reps k.K F vs ds ∧ SqL k.K H b ws ∧ Reps k.K F ws es) (l1 : vs.length = ds.length) (l2 : ws.length = es.length) : WalkD k P (Itz k.K a b) (zipD ds es) := by
  refine ⟨fun i F H hi p f => ?_, fun F H p f => ?_, fun i F H x H' hi p f y => ?_⟩
  · obtain ⟨h1, h2, _⟩ := zip_at hi
    obtain ⟨s1, r1, s2, r2⟩ := hs F H p f
    exact ⟨vs, ws, vs[i], ws[i], s1, s2, List.getElem?_eq_getElem (by omega), List.getElem?_eq_getElem (by omega)⟩
  · obtain ⟨s1, r1, s2, r2⟩ := hs F H p f
    refine ⟨vs, ws, s1, s2, ?_⟩
    have : (zipD ds es).length = min ds.length es.length := by simp [zipD]
    omega
  · obtain ⟨h1, h2, h3⟩ := zip_at hi
    obtain ⟨s1, r1, s2, r2⟩ := hs F H p f
    obtain ⟨T, x1, y1, rfl, hT, rfl, e1, e2⟩ := y
    obtain ⟨v, g1, g2⟩ := r1.get (i := i) (d := ds[i]) (by simp [h1])
    obtain ⟨w, g3, g4⟩ := r2.get (i := i) (d := es[i]) (by simp [h2])
    rw [e1 vs s1] at g1
    rw [e2 ws s2] at g3
    cases g1
    cases g3
    rw [h3]
    exact pair_new f hT g2 g4
theorem walkD_zipT (hs : ∀ F H, P F H → FLe F H → SqT k.K H a vs ∧ Reps k.K F vs ds ∧ SqT k.K H b ws ∧ Reps k.K F ws es) (l1 : vs.length = ds.length) (l2 : ws.length = es.length) : WalkD k P (RZ.ItzT k.K a b) (zipD ds es) := by
  refine ⟨fun i F H hi p f => ?_, fun F H p f => ?_, fun i F H x H' hi p f y => ?_⟩
  · obtain ⟨h1, h2, _⟩ := zip_at hi
    obtain ⟨s1, r1, s2, r2⟩ := hs F H p f
    exact ⟨vs, ws, vs[i], ws[i], s1, s2, List.getElem?_eq_getElem (by omega), List.getElem?_eq_getElem (by omega)⟩
  · obtain ⟨s1, r1, s2, r2⟩ := hs F H p f
    refine ⟨vs, ws, s1, s2, ?_⟩
    have : (zipD ds es).length = min ds.length es.length := by simp [zipD]
    omega
  · obtain ⟨h1, h2, h3⟩ := zip_at hi
    obtain ⟨s1, r1, s2, r2⟩ := hs F H p f
    obtain ⟨T, x1, y1, rfl, hT, rfl, e1, e2⟩ := y
    obtain ⟨v, g1, g2⟩ := r1.get (i := i) (d := ds[i]) (by simp [h1])
    obtain ⟨w, g3, g4⟩ := r2.get (i := i) (d := es[i]) (by simp [h2])
    rw [e1 vs s1] at g1
    rw [e2 ws s2] at g3
    cases g1
    cases g3
    rw [h3]
    exact pair_new f hT g2 g4
def enumGo : Nat → List PD → List PD
  | _, [] => []
  | n, d :: ds => pairD (.int (n : Int)) d :: enumGo (n + 1) ds
theorem enum_at : ∀ {ds : List PD} {n i : Nat} (h : i < (enumGo n ds).length), ∃ (h1 : i < ds.length), (enumGo n ds)[i] = pairD (.int ((n + i : Nat) : Int)) ds[i]
  | [], _, _, h => absurd h (Nat.not_lt_zero _)
  | d :: ds, n, 0, h => ⟨Nat.zero_lt_succ _, rfl⟩
  | d :: ds, n, i + 1, h => by
    obtain ⟨h1, h2⟩ := enum_at (ds := ds) (n := n + 1) (i := i) (by simpa [enumGo] using h)
    refine ⟨Nat.succ_lt_succ h1, ?_⟩
    have e : (enumGo n (d :: ds))[i + 1] = (enumGo (n + 1) ds)[i]'(by simpa [enumGo] using h) := rfl
    rw [e, h2, show n + 1 + i = n + (i + 1) by omega]
    rfl
theorem enum_len : ∀ (ds : List PD) (n : Nat), (enumGo n ds).length = ds.length
  | [], _ => rfl
  | _ :: ds, n => congrArg (· + 1) (enum_len ds (n + 1))
theorem walkD_enum (hs : ∀ F H, P F H → FLe F H → SqL k.K H a vs ∧ Reps k.K F vs ds) (l1 : vs.length = ds.length) : WalkD k P (Ite k.K a) (enumGo 0 ds) := by
  refine ⟨fun i F H hi p f => ?_, fun F H p f => ?_, fun i F H x H' hi p f y => ?_⟩
  · obtain ⟨h1, _⟩ := enum_at hi
    exact ⟨vs, vs[i], (hs F H p f).1, List.getElem?_eq_getElem (by omega)⟩
  · exact ⟨vs, (hs F H p f).1, by rw [enum_len]; omega⟩
  · obtain ⟨h1, h3⟩ := enum_at hi
    obtain ⟨s1, r1⟩ := hs F H p f
    obtain ⟨T, x1, rfl, hT, rfl, e1⟩ := y
    obtain ⟨v, g1, g2⟩ := r1.get (i := i) (d := ds[i]) (by simp [h1])
    rw [e1 vs s1] at g1
    cases g1
    rw [h3, Nat.zero_add]
    exact pair_new f hT (.int _) g2
/-- two frozen lists, two frozen tuples -/
def qZip (r : List O → Option (List O)) : QI := fun ρ => match r ρ with
  | some [.fz (.list ds), .fz (.list es)] => some (zipD ds es)
  | some [.fz (.tuple ds), .fz (.tuple es)] => some (zipD ds es)
  | _ => none
theorem tif_zip {ta : TA} {qs : List O → Option (List O)} (ha : TAv k ta qs) : TIf k (RZ.iZipA k.K ta) (qZip qs) := by
  intro F H σ ρ S xs R q e g
  unfold qZip at e
  split at e
  · rename_i ds es e1
    have e' := Option.some.inj e
    subst e'
    refine ha F H σ ρ S _ _ q e1 fun us F1 H1 x1 w1 => ?_
    cases w1 with
    | cons w ww =>
      cases ww with
      | cons w' ww =>
        cases ww
        obtain ⟨a, vs, rfl, g1, g2⟩ := w.fzL rfl
        obtain ⟨b, ws, rfl, g3, g4⟩ := w'.fzL rfl
        exact ⟨a, b, vs, ws, rfl, .inl ⟨sqL_le x1.fle g1, sqL_le x1.fle g3, g _ F1 H1 x1 (walkD_zip (fun F2 H2 p f => ⟨sqL_le f (sqL_sub p g1), g2.sub p, sqL_le f (sqL_sub p g3), g4.sub p⟩) g2.length g4.length)⟩⟩
  · rename_i ds es e1
    have e' := Option.some.inj e
    subst e'
    refine ha F H σ ρ S _ _ q e1 fun us F1 H1 x1 w1 => ?_
    cases w1 with
    | cons w ww =>
      cases ww with
      | cons w' ww =>
        cases ww
        obtain ⟨a, vs, rfl, g1, g2⟩ := w.fzR (ds := ds) rfl
        obtain ⟨b, ws, rfl, g3, g4⟩ := w'.fzR (ds := es) rfl
        exact ⟨a, b, vs, ws, rfl, .inr ⟨sqT_le x1.fle (g1 F1 (Same.refl _)), sqT_le x1.fle (g3 F1 (Same.refl _)), g _ F1 H1 x1 (walkD_zipT (fun F2 H2 p f => ⟨sqT_le f (g1 F2 p), g2.sub p, sqT_le f (g3 F2 p), g4.sub p⟩) g2.length g4.length)⟩⟩
  · cases e
def qEnum (r : List O → Option (List O)) : QI := fun ρ => match r ρ with
  | some [.fz (.list ds)] => some (enumGo 0 ds)
  | _ => none
theorem tif_enum {ta : TA} {qs : List O → Option (List O)} (ha : TAv k ta qs) : TIf k (iEnum k.K ta) (qEnum qs) := by
  intro F H σ ρ S xs R q e g
  unfold qEnum at e
  split at e
  · rename_i ds e1
    have e' := Option.some.inj e
    subst e'
    refine ha F H σ ρ S _ _ q e1 fun us F1 H1 x1 w1 => ?_
    cases w1 with
    | cons w ww =>
      cases ww
      obtain ⟨a, vs, rfl, g1, g2⟩ := w.fzL rfl
      exact ⟨a, vs, rfl, sqL_le x1.fle g1, g _ F1 H1 x1 (walkD_enum (fun F2 H2 p f => ⟨sqL_le f (sqL_sub p g1), g2.sub p⟩) g2.length)⟩
  · cases e
end
end FM
namespace FM
open PySem PySem.Spec L2 PyProof.Rows
/-! ### sorted of ints -/
def sortI (ns : List Int) : List Int := ns.mergeSort (fun a b => decide (a ≤ b))
theorem sortI_perm (ns : List Int) : (sortI ns).Perm ns := List.mergeSort_perm _ _
theorem sortI_sorted (ns : List Int) : (sortI ns).Pairwise (· ≤ ·) := by
  have h := List.pairwise_mergeSort (le := fun a b : Int => decide (a ≤ b)) (fun a b c h1 h2 => by simp at h1 h2 ⊢; omega) (fun a b => by simp; omega) ns
  exact h.imp fun h => by simpa using h
theorem sorted_unique : ∀ {l r : List Int}, l.Perm r → l.Pairwise (· ≤ ·) → r.Pairwise (· ≤ ·) → l = r
  | [], r, p, _, _ => p.nil_eq
  | a :: l, [], p, _, _ => by cases p.eq_nil
  | a :: l, b :: r, p, h1, h2 => by
    have h1' := List.pairwise_cons.mp h1
    have h2' := List.pairwise_cons.mp h2
    have ea : a = b := by
      have m1 : a ∈ b :: r := p.mem_iff.mp List.mem_cons_self
      have m2 : b ∈ a :: l := p.mem_iff.mpr List.mem_cons_self
      rcases List.mem_cons.mp m1 with e | m1
      · exact e
      · rcases List.mem_cons.mp m2 with e | m2
        · exact e.symm
        · exact Int.le_antisymm (h1'.1 b m2) (h2'.1 a m1)
    subst ea
    rw [sorted_unique (List.perm_cons a |>.mp p) h1'.2 h2'.2]
def oSorted : List O → Option O
  | [x] => match seqL x with
    | some ds => match intsD ds with
      | some ns => if ns.length < 64 then some (.lst ((sortI ns).map .int)) else none
      | none => none
    | none => none
  | _ => none
section
variable {k : Kc}
theorem ints_reps {K : Frag} {F : Hp} : ∀ ns : List Int, Reps K F (ns.map V.int) (ns.map .int)
  | [] => .nil
  | n :: ns => .cons (.int n) (ints_reps ns)
theorem cn_sorted : CbN k (rSorted k.K) oSorted := by
  intro F H S xs os o Q f off th ws e h
  unfold oSorted at e
  split at e
  · cases ws with
    | cons w ws =>
      cases ws
      split at e
      · rename_i ds es
        split at e
        · rename_i ns en
          split at e
          · rename_i hz
            have e' := Option.some.inj e
            subst e'
            obtain ⟨a, vs, rfl, g1, g2⟩ := w.seqL f es
            have e3 := intsD_eq en
            subst e3
            rw [reps_ints g2] at g1
            refine ⟨a, ns, rfl, g1, hz, fun ns' p hp hs hn => ?_⟩
            rw [sorted_unique (hp.trans (sortI_perm ns).symm) hs (sortI_sorted ns)]
            exact own_list f (ints_reps (sortI ns)) h p hn
          · cases e
        · cases e
      · cases e
  · cases e
end
/-! ### defs that call themselves -/
theorem CalG.bad {P : Program} {w : World} {K : Frag} {mg : Str → Option Value} {base : Heap} {x qual : Str} {params : Arguments} {body : List Stmt} {scope : Scope} {dvs : List V} {kws : List (Str × V)} {f : Addr} {fd : FuncData} {ps : List Str} {kc : Kc} {n k : Nat} {g : List O → FR} (hg : g = fun _ => .bad)
    (F : FunD K x qual params body scope dvs kws f fd) (hm : mg x = some (.ref f)) (b : Binds K fd ps []) : CalG P w K mg base k x (spM kc n g) := by
  subst hg
  exact ⟨f, fd, ps, ⟨fun vs H Q E h => let ⟨_, _, _, _, _, _, z⟩ := h; z.elim, fun A outer s H args us vs Q E _ _ _ _ h => let ⟨_, _, _, _, _, _, z⟩ := h; z.elim⟩, hm, F.kp, b⟩
end FM
namespace FM
open PySem PySem.Spec L2 PyProof.Rows
/-! ### an empty dict -/
def qDk0 : QE := fun _ => some (.dic [])
def qDt0 : QE := fun _ => some (.dit [])
theorem Qs.newN {k : Kc} {F H : Hp} {σ : L2.St} {ρ : List O} {S : List Addr} (q : Qs k F H σ ρ S) {p : Addr} {ob : HO} (hp : H p = none) (hn : ∀ o u, ob ≠ .frz o u) : Xt F H F (upd H p ob) ∧ Fresh F H (upd H p ob) [p] := by
  refine ⟨Xt.own q.fle hp, ⟨List.nodup_cons.mpr ⟨List.not_mem_nil, .nil⟩, (fun a m => ?_), (fun a m => ?_), (fun a m o u z => ?_)⟩⟩
  · rw [List.mem_singleton.mp m]; exact hp
  · rw [List.mem_singleton.mp m]; exact fle_none q.fle hp
  · rw [List.mem_singleton.mp m, upd_same] at z
    exact hn o u (Option.some.inj z)
theorem ten_dk0 {k : Kc} : TEn k tDNewK qDk0 := by
  intro F H σ ρ S o Q q e h
  have e' := Option.some.inj e
  subst e'
  intro p hp
  obtain ⟨x, fr⟩ := q.newN (ob := .dK []) hp (fun _ _ z => by cases z)
  exact h _ _ _ _ x (.dic (.inl upd_same) .nil) fr
theorem ten_dt0 {k : Kc} : TEn k tDNewT qDt0 := by
  intro F H σ ρ S o Q q e h
  have e' := Option.some.inj e
  subst e'
  intro p hp
  obtain ⟨x, fr⟩ := q.newN (ob := .dT []) hp (fun _ _ z => by cases z)
  exact h _ _ _ _ x (.dit (.inl upd_same) .nil) fr
/-! ### comparisons in a chain -/
end FM
namespace FM
open PySem PySem.Spec L2 PyProof.Rows
/-! ### more words at written-out slots -/
section
variable {ρ : List O} {a b : QE} {r : List O → Option (List O)}
@[simp] theorem qAndV_eq : qAndV a b ρ = match a ρ with
    | some (.fz (.bool true)) => b ρ
    | some (.fz (.bool false)) => some (.fz (.bool false))
    | _ => none := rfl
@[simp] theorem qOrV_eq : qOrV a b ρ = match a ρ with
    | some (.fz (.bool false)) => b ρ
    | some (.fz (.bool true)) => some (.fz (.bool true))
    | _ => none := rfl
@[simp] theorem qNotV_eq : qNotV a ρ = match a ρ with
    | some (.fz (.bool b)) => some (.fz (.bool (!b)))
    | _ => none := rfl
@[simp] theorem qIsi2_eq {n m : String} : qIsi2 n m a ρ = match a ρ with
    | none => none
    | some x => match toPD x with
      | none => none
      | some d => match isTy n d, isTy m d with
        | some b, some c => some (.fz (.bool (b || c)))
        | _, _ => none := rfl
@[simp] theorem qYes_eq : qYes ρ = some true := rfl
@[simp] theorem wipeO_nil : wipeO ρ [] = ρ := rfl
@[simp] theorem wipeO_cons {v : Nat} {vs : List Nat} : wipeO ρ (v :: vs) = (wipeO ρ vs).set v .dead := rfl
@[simp] theorem qLc_eq {qi : QI} {f : QG} {c : List O → Option Bool} {e : QE} {vs : List Nat} : qLc qi f c e vs ρ = match qi ρ with
    | none => none
    | some xs => if xs.length ≤ sizeLine then (lcGo f c e (wipeO ρ vs) xs).map .lst else none := rfl
@[simp] theorem lcGo_nil {f : QG} {c : List O → Option Bool} {e : QE} : lcGo f c e ρ [] = some [] := rfl
theorem lcGo_cons {f : QG} {c : List O → Option Bool} {e : QE} {x : PD} {xs : List PD} : lcGo f c e ρ (x :: xs) = match f x ρ with
    | none => none
    | some ρ1 => match c ρ1 with
      | none => none
      | some false => lcGo f c e ρ xs
      | some true => match e ρ1 with
        | some (.fz d) => (lcGo f c e ρ xs).map fun r => d :: r
        | _ => none := rfl
@[simp] theorem fTup_eq {n : Nat} {f : List PD → List O → Option (List O)} {ds : List PD} : fTup n f (.tuple ds) ρ = if ds.length = n then f ds ρ else none := rfl
@[simp] theorem fCons_eq {f : QG} {g : List PD → List O → Option (List O)} {d : PD} {ds : List PD} : fCons f g (d :: ds) ρ = match f d ρ with
    | none => none
    | some ρ' => g ds ρ' := rfl
@[simp] theorem fNil_eq : fNil [] ρ = some ρ := rfl
@[simp] theorem oIsN_fz {d : PD} : oIsN (.fz d) (.fz .none) = some (.fz (.bool (match d with | .none => true | _ => false))) := by
  cases d <;> rfl
@[simp] theorem oNotN_fz {d : PD} : oNotN (.fz d) (.fz .none) = some (.fz (.bool (match d with | .none => false | _ => true))) := by
  cases d <;> rfl
@[simp] theorem oIsB_b {x y : Bool} : oIsB (.fz (.bool x)) (.fz (.bool y)) = some (.fz (.bool (decide (x = y)))) := rfl
@[simp] theorem oNotB_b {x y : Bool} : oNotB (.fz (.bool x)) (.fz (.bool y)) = some (.fz (.bool (!decide (x = y)))) := rfl
@[simp] theorem qItA_eq : qItA a ρ = match a ρ with
    | none => none
    | some x => viA x := rfl
@[simp] theorem viA_l {ds : List PD} : viA (.fz (.list ds)) = some ds := rfl
@[simp] theorem viA_t {ds : List PD} : viA (.fz (.tuple ds)) = some ds := rfl
@[simp] theorem viA_lst {ds : List PD} : viA (.lst ds) = some ds := rfl
@[simp] theorem qNo_eq : qNo ρ = some none := rfl
@[simp] theorem qPart_eq : qPart a ρ = match a ρ with
    | some (.fz (.int i)) => some (some i)
    | _ => none := rfl
@[simp] theorem qSl_eq {lo hi : List O → Option (Option Int)} : qSl a lo hi ρ = match a ρ with
    | none => none
    | some x => match lo ρ with
      | none => none
      | some l => match hi ρ with
        | none => none
        | some u => oSl x l u := rfl
@[simp] theorem oSl_t {ds : List PD} {lo hi : Option Int} : oSl (.fz (.tuple ds)) lo hi = some (.fz (.tuple (cut ds lo hi))) := rfl
@[simp] theorem boolsD_nil : boolsD [] = some [] := rfl
@[simp] theorem boolsD_cons {x : Bool} {ds : List PD} : boolsD (.bool x :: ds) = (boolsD ds).map (x :: ·) := rfl
@[simp] theorem intsD_nil : intsD [] = some [] := rfl
@[simp] theorem intsD_cons {x : Int} {ds : List PD} : intsD (.int x :: ds) = (intsD ds).map (x :: ·) := rfl
@[simp] theorem oAll_l {ds : List PD} : oAll [.fz (.list ds)] = (boolsD ds).map fun bs => .fz (.bool (bs.all id)) := rfl
@[simp] theorem oAny_l {ds : List PD} : oAny [.fz (.list ds)] = (boolsD ds).map fun bs => .fz (.bool (bs.any id)) := rfl
@[simp] theorem oAll_lst {ds : List PD} : oAll [.lst ds] = (boolsD ds).map fun bs => .fz (.bool (bs.all id)) := rfl
@[simp] theorem oAny_lst {ds : List PD} : oAny [.lst ds] = (boolsD ds).map fun bs => .fz (.bool (bs.any id)) := rfl
@[simp] theorem oSum_l {ds : List PD} : oSum [.fz (.list ds)] = match intsD ds with
    | some ns => some (.fz (.int ns.sum))
    | none => none := by
  show (match intsD ds with | some ns => (some (PyData.int ns.sum)).map O.fz | none => none) = _
  cases intsD ds <;> rfl
@[simp] theorem oSum_lst {ds : List PD} : oSum [.lst ds] = match intsD ds with
    | some ns => some (.fz (.int ns.sum))
    | none => none := by
  show (match intsD ds with | some ns => (some (PyData.int ns.sum)).map O.fz | none => none) = _
  cases intsD ds <;> rfl
@[simp] theorem oEq_b {x y : Bool} : oEq (.fz (.bool x)) (.fz (.bool y)) = some (.fz (.bool (decide (x = y)))) := by
  cases x <;> cases y <;> simp [oEq, oEqD, strs2, SeqAt.shaped, PyData.canLay0, PyData.depth, PyData.eqv]
@[simp] theorem oNe_b {x y : Bool} : oNe (.fz (.bool x)) (.fz (.bool y)) = some (.fz (.bool (!decide (x = y)))) := by
  cases x <;> cases y <;> simp [oNe, oNeD, strs2, SeqAt.shaped, PyData.canLay0, PyData.depth, PyData.eqv]
@[simp] theorem qDk0_eq : qDk0 ρ = some (.dic []) := rfl
@[simp] theorem toPD_dic {ds : List (Key × PD)} : toPD (.dic ds) = some (.dict (ds.map kp)) := rfl
@[simp] theorem oAdd_tt {xs ys : List PD} : oAdd (.fz (.tuple xs)) (.fz (.tuple ys)) = if xs.length + ys.length ≤ sizeLine then some (.fz (.tuple (xs ++ ys))) else none := rfl
@[simp] theorem oAdd_ll {xs ys : List PD} : oAdd (.fz (.list xs)) (.fz (.list ys)) = if xs.length + ys.length ≤ sizeLine then some (.fz (.list (xs ++ ys))) else none := rfl
end
/-- a comprehension, item by item -/
theorem lcGo_all {f : QG} {c : List O → Option Bool} {e : QE} {ρ : List O} {p : PD → Bool} {h : PD → PD} : ∀ {xs : List PD}, (∀ x ∈ xs, ∃ ρ1, f x ρ = some ρ1 ∧ c ρ1 = some (p x) ∧ (p x = true → e ρ1 = some (.fz (h x)))) → lcGo f c e ρ xs = some ((xs.filter p).map h)
  | [], _ => rfl
  | x :: xs, hx => by
    obtain ⟨ρ1, e1, e2, e3⟩ := hx x List.mem_cons_self
    have ih := lcGo_all (xs := xs) fun y m => hx y (List.mem_cons_of_mem _ m)
    rw [lcGo_cons, e1]
    simp only [e2]
    cases hp : p x with
    | false => simp [ih, hp]
    | true => simp [ih, hp, e3 hp]
theorem lcGo_map {f : QG} {e : QE} {ρ : List O} {h : PD → PD} {xs : List PD} (hx : ∀ x ∈ xs, ∃ ρ1, f x ρ = some ρ1 ∧ e ρ1 = some (.fz (h x))) : lcGo f qYes e ρ xs = some (xs.map h) := by
  have := lcGo_all (f := f) (c := qYes) (e := e) (ρ := ρ) (p := fun _ => true) (h := h) (xs := xs) fun x m => by
    obtain ⟨ρ1, e1, e2⟩ := hx x m
    exact ⟨ρ1, e1, rfl, fun _ => e2⟩
  rw [this, show xs.filter (fun _ => true) = xs from List.filter_eq_self.mpr fun _ _ => rfl]
/-! ### plain data, to a depth -/
def plainD : Nat → PD → Prop
  | _, .none => True
  | _, .bool _ => True
  | _, .int _ => True
  | _, .str _ => True
  | n + 1, .list ds => ds.length ≤ sizeLine ∧ ∀ x ∈ ds, plainD n x
  | n + 1, .tuple ds => ds.length ≤ sizeLine ∧ ∀ x ∈ ds, plainD n x
  | _, _ => False
theorem zip_self : ∀ ds : List PD, zipD ds ds = ds.map fun x => pairD x x
  | [] => rfl
  | d :: ds => congrArg (pairD d d :: ·) (zip_self ds)
theorem boolsD_true {α : Type} (xs : List α) : boolsD (xs.map fun _ => .bool true) = some (xs.map fun _ => true) := by
  have := boolsD_map (xs.map fun _ => true)
  rwa [List.map_map] at this
end FM
namespace FM
open PySem PySem.Spec L2 PyProof.Rows
/-! ### zip of lists and tuples in any mix -/
def SqB (b : Bool) (K : Frag) (H : Hp) (a : Addr) (xs : List V) : Prop := match b with
  | true => SqL K H a xs
  | false => SqT K H a xs
def AtB (b : Bool) (h : Heap) (a : Addr) (its : Array Value) : Prop := match b with
  | true => h.IsList a its
  | false => h.IsTuple a its
def IterB (b : Bool) (h : Heap) (it a : Addr) (i : Nat) : Prop := match b with
  | true => h.IsListIter it a i
  | false => h.IsTupleIter it a i
theorem sqB_inv {X : Cx} {pins : List (Addr × Obj)} {σ : L2.St} {H : Hp} {s : Shared} {b : Bool} {a : Addr} {xs : List V} (I : Inv X pins σ H s) (h : SqB b X.K H a xs) : ∃ its : List Value, Vals xs its ∧ AtB b s.heap a its.toArray := by
  cases b with
  | true =>
    obtain ⟨its, rv, p, _⟩ := I.list h
    exact ⟨its, rv, p.isList⟩
  | false =>
    obtain ⟨its, rv, p, _⟩ := I.tuple h
    exact ⟨its, rv, p⟩
theorem sqB_inj {X : Cx} {pins : List (Addr × Obj)} {σ : L2.St} {H : Hp} {s : Shared} {b : Bool} {a : Addr} {xs ys : List V} (I : Inv X pins σ H s) (h1 : SqB b X.K H a xs) (h2 : SqB b X.K H a ys) : xs = ys := by
  cases b with
  | true => exact I.list_inj h1 h2
  | false => exact I.tuple_inj h1 h2
section
variable {P : Program} {w : World} {A : Around} {it a : Addr} {items : Array Value}
theorem IterB.at {b : Bool} {h h' : Heap} {i : Nat} (x : IterB b h it a i) (k : ∀ o, h.get? it = some o → h'.get? it = some o) : IterB b h' it a i := by
  cases b with
  | true => exact Heap.IsListIter.at x k
  | false => exact Heap.IsTupleIter.at x k
theorem AtB.at {b : Bool} {h h' : Heap} (x : AtB b h a items) (k : ∀ o, h.get? a = some o → h'.get? a = some o) : AtB b h' a items := by
  cases b with
  | true => exact Heap.IsList.at x k
  | false => exact Heap.IsTuple.at x k
theorem IterB.ob {b : Bool} {h : Heap} {i : Nat} (x : IterB b h it a i) : ∃ o, h.get? it = some o ∧ ∀ v, o.data ≠ .cell v := by
  cases b with
  | true => obtain ⟨o, e, _, d⟩ := x; exact ⟨o, e, fun v q => by rw [d] at q; cases q⟩
  | false => obtain ⟨o, e, _, d⟩ := x; exact ⟨o, e, fun v q => by rw [d] at q; cases q⟩
theorem AtB.lt {b : Bool} {h : Heap} (x : AtB b h a items) : a < h.objs.size := by
  cases b with
  | true => obtain ⟨o, e, _⟩ := x; exact Heap.lt_size e
  | false => obtain ⟨o, e, _⟩ := x; exact Heap.lt_size e
theorem drawsB (b : Bool) (hh : A.handled = none) (hne : a ≠ it) : Draws P w A it [it, a] items.size (fun i v => items[i]? = some v) (fun i h => IterB b h it a i ∧ AtB b h a items) := by
  cases b with
  | true => exact Draws.list hh it a hne items
  | false => exact Draws.tuple hh it a hne items
/-- where it has come to its end -/
theorem drawsEnd (b : Bool) (hh : A.handled = none) {i : Nat} (hi : items[i]? = none) : Draws P w A it [it, a] i (fun _ _ => False) (fun j h => j = i ∧ IterB b h it a i ∧ AtB b h a items) where
  live := fun j h st => let ⟨o, e, _⟩ := st.2.1.ob; ⟨o, e⟩
  frame := fun j h h' st k => ⟨st.1, st.2.1.at (k it List.mem_cons_self), st.2.2.at (k a (by simp))⟩
  item := fun j s Q E hj st hQ => absurd st.1 (Nat.ne_of_lt hj)
  done := fun s Q E st hE => by
    cases b with
    | true => exact wpAny_nextOf_list_end hh st.2.1 st.2.2 hi hE
    | false => exact wpAny_nextOf_tuple_end hh st.2.1 st.2.2 hi hE
theorem beginsB (b : Bool) (a : Addr) (items : Array Value) : ∃ o, Begins (.ref a) o (fun h => AtB b h a items) ∧ ∀ (h : Heap) (it : Addr), h.get? it = some o → IterB b h it a 0 := by
  cases b with
  | true => exact ⟨_, begins_list a items, fun h it e => ⟨_, e, rfl, rfl⟩⟩
  | false => exact ⟨_, begins_tuple a items, fun h it e => ⟨_, e, rfl, rfl⟩⟩
end
def Itm (K : Frag) (b1 b2 : Bool) (a b : Addr) : It :=
  ⟨fun i H => ∃ (xs ys : List V) (x y : V), SqB b1 K H a xs ∧ SqB b2 K H b ys ∧ xs[i]? = some x ∧ ys[i]? = some y,
    fun i H v H' => ∃ (T : Addr) (x y : V), v = .ref T ∧ H T = none ∧ H' = upd H T (.tup [x, y]) ∧ (∀ xs, SqB b1 K H a xs → xs[i]? = some x) ∧ ∀ ys, SqB b2 K H b ys → ys[i]? = some y,
    fun i H => ∃ xs ys : List V, SqB b1 K H a xs ∧ SqB b2 K H b ys ∧ (xs.length ≤ i ∨ ys.length ≤ i)⟩
def tnM (b1 b2 : Bool) (z TI TO i1 i2 a b : Addr) (i : Nat) (h : Heap) : Prop := IsZip h z TI TO .none ∧ IsTupOf2 h TI (.ref i1) (.ref i2) ∧ (∃ x y, IsTupOf2 h TO x y) ∧ IterB b1 h i1 a i ∧ IterB b2 h i2 b i
theorem turn_zipM {P : Program} {w : World} {K : Frag} {elts : List Expr} {kk : Nat} {tpos : Pos} {b1 b2 : Bool} {a b z TI TO i1 i2 : Addr} (S : ZipSep2 z TI TO i1 i2 [i1, a] [i2, b]) (ha : a ≠ i1) (hb : b ≠ i2) :
    Turn P w K (.Tuple elts kk tpos) (Itm K b1 b2 a b) [z, TI, TO, i1, i2] z (tnM b1 b2 z TI TO i1 i2 a b) where
  mem := List.mem_cons_self
  obj := fun i h st c hc => by
    obtain ⟨q1, q2, ⟨x, y, q3⟩, q4, q5⟩ := st
    simp only [List.mem_cons, List.not_mem_nil, or_false] at hc
    rcases hc with rfl | rfl | rfl | rfl | rfl
    · exact ⟨_, q1, fun v q => by cases q⟩
    · exact ⟨_, q2, fun v q => by cases q⟩
    · exact ⟨_, q3, fun v q => by cases q⟩
    · exact q4.ob
    · exact q5.ob
  keep := fun i h h' st k => by
    obtain ⟨q1, q2, ⟨x, y, q3⟩, q4, q5⟩ := st
    exact ⟨k z List.mem_cons_self _ q1, k TI (by simp) _ q2, ⟨x, y, k TO (by simp) _ q3⟩, q4.at (k i1 (by simp)), q5.at (k i2 (by simp))⟩
  item := by
    rintro X rfl rfl rfl hc i pins s σ H E I hf ⟨q1, q2, q3, q4, q5⟩ ⟨xs, ys, x, y, g1, g2, e1, e2⟩
    obtain ⟨its1, r1, p1⟩ := sqB_inv I g1
    obtain ⟨its2, r2, p2⟩ := sqB_inv I g2
    obtain ⟨u1, o1, w1⟩ := r1.get e1
    obtain ⟨u2, o2, w2⟩ := r2.get e2
    have hd : X.A.in1.handled = none := I.ok.hd hc
    have l1 : i < its1.length := (List.getElem?_eq_some_iff.mp o1).1
    have l2 : i < its2.length := (List.getElem?_eq_some_iff.mp o2).1
    have G := GoesN.zip2 (elts := elts) (x1 := kk) (pos := tpos) S (drawsB (P := X.prog) (w := X.w) (items := its1.toArray) b1 hd ha) (drawsB (P := X.prog) (w := X.w) (items := its2.toArray) b2 hd hb)
    refine G.goes i s (fun u s2 => ∃ x H', Inv X pins σ H' s2 ∧ RelV x u ∧ (Itm X.K b1 b2 a b).yld i H x H' ∧ tnM b1 b2 z TI TO i1 i2 a b (i + 1) s2.heap ∧ ∀ b ∈ [z, TI, TO, i1, i2], H' b = none) E (by simp; omega) ⟨q1, q2, q3, ⟨q4, p1⟩, ⟨q5, p2⟩⟩ ?_
    rintro v h' tk ⟨T, v1, v2, rfl, hT, a1, a2, c⟩ ⟨t1, t2, t3, t4, t5⟩ hk htk
    rw [List.getElem?_toArray, o1] at a1
    rw [List.getElem?_toArray, o2] at a2
    cases a1
    cases a2
    obtain ⟨oT, c1, c2, c3, c4⟩ := c
    have mk : ObjOk X.prog X.w (upd H T (.tup [x, y])) h' T (.tup [x, y]) := ⟨show 2 ≤ sizeLine by decide, [u1, u2], .cons w1 (.cons w2 .nil), oT, c1, c2, c3, c4⟩
    have I2 := I.turnedNew (t' := tk) (ch := [z, TI, TO, i1, i2]) (fun c o nc q => hk c o (fun m => nc (by simp at m ⊢; rcases m with m | m | m | m <;> simp [m])) q) hf hT mk
    refine ⟨.ref T, _, I2, rfl, ⟨T, x, y, rfl, I.hok.fresh hT, rfl, fun l hl => by rw [sqB_inj I hl g1]; exact e1, fun l hl => by rw [sqB_inj I hl g2]; exact e2⟩, ⟨t1, t2, t3, t4.1, t5.1⟩, fun c hm => ?_⟩
    obtain ⟨oc, ec, _⟩ : ∃ o, s.heap.get? c = some o ∧ True := by
      simp only [List.mem_cons, List.not_mem_nil, or_false] at hm
      rcases hm with rfl | rfl | rfl | rfl | rfl
      · exact ⟨_, q1, trivial⟩
      · exact ⟨_, q2, trivial⟩
      · obtain ⟨_, _, q3⟩ := q3; exact ⟨_, q3, trivial⟩
      · obtain ⟨o, e, _⟩ := q4.ob; exact ⟨o, e, trivial⟩
      · obtain ⟨o, e, _⟩ := q5.ob; exact ⟨o, e, trivial⟩
    have : c < T := Nat.lt_of_lt_of_le (Heap.lt_size ec) hT
    rw [upd_ne (Nat.ne_of_lt this)]
    exact (hf c hm).1
  done := by
    rintro X rfl rfl rfl hc i pins s σ H E I hf ⟨q1, q2, q3, q4, q5⟩ ⟨xs, ys, g1, g2, hz⟩
    obtain ⟨its1, r1, p1⟩ := sqB_inv I g1
    obtain ⟨its2, r2, p2⟩ := sqB_inv I g2
    have hd : X.A.in1.handled = none := I.ok.hd hc
    have n1 := r1.length
    have n2 := r2.length
    have fin : ∀ h' tk, (∀ b o, b ∉ [z, TO, i1, i2] → s.heap.get? b = some o → h'.get? b = some o) → s.toks ≤ tk → Inv X pins σ H { s with heap := h', toks := tk } := fun h' tk hk _ =>
      I.turnedL (t' := tk) (ch := [z, TI, TO, i1, i2]) (fun c o nc q => hk c o (fun m => nc (by simp at m ⊢; rcases m with m | m | m | m <;> simp [m])) q) hf
    by_cases c1 : xs.length ≤ i
    · have k1 : its1.toArray[i]? = none := by simp; omega
      by_cases c2 : ys.length ≤ i
      · have k2 : its2.toArray[i]? = none := by simp; omega
        have G := GoesN.zip2 (elts := elts) (x1 := kk) (pos := tpos) S (drawsEnd (P := X.prog) (w := X.w) (it := i1) (a := a) b1 hd k1) (drawsEnd (P := X.prog) (w := X.w) (it := i2) (a := b) b2 hd k2)
        exact G.stops s _ E (by rw [Nat.min_self]; exact ⟨q1, q2, q3, ⟨rfl, q4, p1⟩, ⟨rfl, q5, p2⟩⟩) fin
      · have G := GoesN.zip2 (elts := elts) (x1 := kk) (pos := tpos) S (drawsEnd (P := X.prog) (w := X.w) (it := i1) (a := a) b1 hd k1) (drawsB (P := X.prog) (w := X.w) (items := its2.toArray) b2 hd hb)
        have e : min i its2.toArray.size = i := by simp; omega
        exact G.stops s _ E (by rw [e]; exact ⟨q1, q2, q3, ⟨rfl, q4, p1⟩, ⟨q5, p2⟩⟩) fin
    · have k2 : its2.toArray[i]? = none := by simp; omega
      have G := GoesN.zip2 (elts := elts) (x1 := kk) (pos := tpos) S (drawsB (P := X.prog) (w := X.w) (items := its1.toArray) b1 hd ha) (drawsEnd (P := X.prog) (w := X.w) (it := i2) (a := b) b2 hd k2)
      have e : min its1.toArray.size i = i := by simp; omega
      exact G.stops s _ E (by rw [e]; exact ⟨q1, q2, q3, ⟨q4, p1⟩, ⟨rfl, q5, p2⟩⟩) fin
  self := fun A i s Q E st h => wpAny_pyIter_zip st.1 h
def iZipM (K : Frag) (ta : TA) : TI := fun σ H R => ta σ H fun vs H1 => ∃ (a b : Addr) (b1 b2 : Bool) (xs ys : List V), vs = [.ref a, .ref b] ∧ SqB b1 K H1 a xs ∧ SqB b2 K H1 b ys ∧ R (Itm K b1 b2 a b) H1
theorem pi_zipM {X : Cx} {e e2 : Expr} {ta : TA} {p pos tpos : Pos} {elts : List Expr} {kk : Nat} (hg : Gl X "zip") (hm : X.mg "zip" = none) (ha : PA X [e, e2] ta)
    (hs : starEach [e, e2] X.env = (false, eval e X.env) :: starEach [e2] X.env := by rfl) (hpl : (backTo pos (starEach [e2] X.env)).any (·.1) = false := by rfl) :
    PI X (.Tuple elts kk tpos) (.Call (.Name "zip" p) [e, e2] [] pos) (iZipM X.K ta) := by
  refine ⟨fun pins s σ H R I h => Call_ (ld_blt I hg hm PyProof.Rows.boot_zip (PyProof.Rows.callWith_type1 (thn (ha.run pos pins s σ H _ I h) fun us s1 ⟨vs, H1, I1, r1, q1⟩ => ?_) hs hpl))⟩
  obtain ⟨a, b, b1, b2, xs, ys, rfl, g1, g2, q⟩ := q1
  cases r1 with
  | cons r rr =>
    cases rr with
    | cons r' rr =>
      cases rr
      cases r
      cases r'
      obtain ⟨its1, _, p1⟩ := sqB_inv I1 g1
      obtain ⟨its2, _, p2⟩ := sqB_inv I1 g2
      obtain ⟨o1, B1, it1⟩ := beginsB b1 a its1.toArray
      obtain ⟨o2, B2, it2⟩ := beginsB b2 b its2.toArray
      have la := p1.lt
      have lb := p2.lt
      refine zip_begins2 B1 B2 p1 p2 fun h' k1 k2 k3 k4 k5 hsz hk => wpAny_pyIter_zip k1 ?_
      have S := zip_sep2 (N := s1.heap.objs.size) (fp1 := [a]) (fp2 := [b]) (fun c m => by rw [List.mem_singleton.mp m]; exact la) (fun c m => by rw [List.mem_singleton.mp m]; exact lb)
      refine ⟨s1.heap.objs.size + 4, [s1.heap.objs.size + 4, s1.heap.objs.size + 2, s1.heap.objs.size + 3, s1.heap.objs.size, s1.heap.objs.size + 1], tnM b1 b2 _ _ _ _ _ a b, _, H1, rfl, I1.kept (t' := s1.toks) hk,
        turn_zipM S (Nat.ne_of_lt la) (Nat.ne_of_lt (Nat.lt_succ_of_lt lb)), ⟨k1, k2, ⟨_, _, k3⟩, it1 _ _ k4, it2 _ _ k5⟩, fun c hc => ?_, q⟩
      have hle : s1.heap.objs.size ≤ c := by
        simp only [List.mem_cons, List.not_mem_nil, or_false] at hc
        rcases hc with rfl | rfl | rfl | rfl | rfl
        · exact Nat.le_add_right _ _
        · exact Nat.le_add_right _ _
        · exact Nat.le_add_right _ _
        · exact Nat.le_refl _
        · exact Nat.le_add_right _ _
      exact I1.fpOk hle (I1.hok.fresh hle)
def qZipV (r : List O → Option (List O)) : QI := fun ρ => match r ρ with
  | some [x, y] => match viA x, viA y with
    | some ds, some es => some (zipD ds es)
    | _, _ => none
  | _ => none
def qZipF (r : List O → Option (List O)) : QI := fun ρ => match r ρ with
  | some [x, y] => match fzA x, fzA y with
    | some ds, some es => some (zipD ds es)
    | _, _ => none
  | _ => none
section
variable {k : Kc} {P : Hp → Hp → Prop} {a b : Addr} {vs ws : List V} {ds es : List PD}
theorem walkD_zipM {b1 b2 : Bool} (hs : ∀ F H, P F H → FLe F H → SqB b1 k.K H a vs ∧ Reps k.K F vs ds ∧ SqB b2 k.K H b ws ∧ Reps k.K F ws es) (l1 : vs.length = ds.length) (l2 : ws.length = es.length) : WalkD k P (Itm k.K b1 b2 a b) (zipD ds es) := by
  refine ⟨fun i F H hi p f => ?_, fun F H p f => ?_, fun i F H x H' hi p f y => ?_⟩
  · obtain ⟨h1, h2, _⟩ := zip_at hi
    obtain ⟨s1, r1, s2, r2⟩ := hs F H p f
    exact ⟨vs, ws, vs[i], ws[i], s1, s2, List.getElem?_eq_getElem (by omega), List.getElem?_eq_getElem (by omega)⟩
  · obtain ⟨s1, r1, s2, r2⟩ := hs F H p f
    refine ⟨vs, ws, s1, s2, ?_⟩
    have : (zipD ds es).length = min ds.length es.length := by simp [zipD]
    omega
  · obtain ⟨h1, h2, h3⟩ := zip_at hi
    obtain ⟨s1, r1, s2, r2⟩ := hs F H p f
    obtain ⟨T, x1, y1, rfl, hT, rfl, e1, e2⟩ := y
    obtain ⟨v, g1, g2⟩ := r1.get (i := i) (d := ds[i]) (by simp [h1])
    obtain ⟨w, g3, g4⟩ := r2.get (i := i) (d := es[i]) (by simp [h2])
    rw [e1 vs s1] at g1
    rw [e2 ws s2] at g3
    cases g1
    cases g3
    rw [h3]
    exact pair_new f hT g2 g4
theorem sqB_sub {K : Frag} {F H F' H' : Hp} {b : Bool} {a : Addr} {xs : List V} (x : Xt F H F' H') (h : SqB b K H a xs) : SqB b K H' a xs := by
  cases b with
  | true => exact sqL_sub x.ex h
  | false => exact sqT_sub x.ex h
theorem vw_seqB {F H : Hp} {S : List Addr} {v : V} {o : O} {ds : List PD} (f : FLe F H) (w : Vw k F H S v o) (e : viA o = some ds) : ∃ (b : Bool) (a : Addr) (vs : List V), v = .ref a ∧ SqB b k.K H a vs ∧ Reps k.K F vs ds := by
  rcases viA_or e with e | e
  · obtain ⟨a, vs, rfl, g1, g2⟩ := w.seqL f e
    exact ⟨true, a, vs, rfl, g1, g2⟩
  · obtain ⟨a, vs, rfl, g1, g2⟩ := w.seqR f e
    exact ⟨false, a, vs, rfl, g1, g2⟩
theorem vw_fzB {F H : Hp} {S : List Addr} {v : V} {o : O} {ds : List PD} (w : Vw k F H S v o) (e : fzA o = some ds) : ∃ (b : Bool) (a : Addr) (vs : List V), v = .ref a ∧ (∀ F', Same F F' → SqB b k.K F' a vs) ∧ Reps k.K F vs ds := by
  rcases fzA_or e with e | e
  · obtain ⟨a, vs, rfl, g1, g2⟩ := w.fzL e
    exact ⟨true, a, vs, rfl, fun F' p => sqL_sub p g1, g2⟩
  · obtain ⟨a, vs, rfl, g1, g2⟩ := w.fzR e
    exact ⟨false, a, vs, rfl, fun F' p => g1 F' p, g2⟩
theorem sqB_le {K : Frag} {F H : Hp} {b : Bool} {a : Addr} {xs : List V} (f : FLe F H) (h : SqB b K F a xs) : SqB b K H a xs := by
  cases b with
  | true => exact sqL_le f h
  | false => exact sqT_le f h
theorem tiv_zip {ta : TA} {qs : List O → Option (List O)} (ha : TAv k ta qs) : TIv k (iZipM k.K ta) (qZipV qs) := by
  intro F H σ ρ S xs R q e g
  unfold qZipV at e
  split at e
  · rename_i x y e1
    split at e
    · rename_i ds es d1 d2
      cases e
      refine ha F H σ ρ S _ _ q e1 fun us F1 H1 x1 w1 => ?_
      cases w1 with
      | cons w ww =>
        cases ww with
        | cons w' ww =>
          cases ww
          obtain ⟨b1, a, vs, rfl, g1, g2⟩ := vw_seqB x1.fle w d1
          obtain ⟨b2, b, ws, rfl, g3, g4⟩ := vw_seqB x1.fle w' d2
          exact ⟨a, b, b1, b2, vs, ws, rfl, g1, g3, g _ F1 H1 x1 (walkD_zipM (fun F2 H2 p f => ⟨sqB_sub p g1, g2.sub p.sub, sqB_sub p g3, g4.sub p.sub⟩) g2.length g4.length)⟩
    · cases e
  · cases e
theorem tif_zipM {ta : TA} {qs : List O → Option (List O)} (ha : TAv k ta qs) : TIf k (iZipM k.K ta) (qZipF qs) := by
  intro F H σ ρ S xs R q e g
  unfold qZipF at e
  split at e
  · rename_i x y e1
    split at e
    · rename_i ds es d1 d2
      cases e
      refine ha F H σ ρ S _ _ q e1 fun us F1 H1 x1 w1 => ?_
      cases w1 with
      | cons w ww =>
        cases ww with
        | cons w' ww =>
          cases ww
          obtain ⟨b1, a, vs, rfl, g1, g2⟩ := vw_fzB w d1
          obtain ⟨b2, b, ws, rfl, g3, g4⟩ := vw_fzB w' d2
          exact ⟨a, b, b1, b2, vs, ws, rfl, sqB_le x1.fle (g1 F1 (Same.refl _)), sqB_le x1.fle (g3 F1 (Same.refl _)), g _ F1 H1 x1 (walkD_zipM (fun F2 H2 p f => ⟨sqB_le f (g1 F2 p), g2.sub p, sqB_le f (g3 F2 p), g4.sub p⟩) g2.length g4.length)⟩
    · cases e
  · cases e
end
section
variable {ρ : List O} {r : List O → Option (List O)}
@[simp] theorem qZipV_eq : qZipV r ρ = match r ρ with
    | some [x, y] => match viA x, viA y with
      | some ds, some es => some (zipD ds es)
      | _, _ => none
    | _ => none := rfl
@[simp] theorem qZipF_eq : qZipF r ρ = match r ρ with
    | some [x, y] => match fzA x, fzA y with
      | some ds, some es => some (zipD ds es)
      | _, _ => none
    | _ => none := rfl
end
end FM
namespace FM
open PySem PySem.Spec L2 PyProof.Rows
/-! ### facts for the laws -/
def up (n b : Int) : Int := (n + b - 1) / b * b
def thD (p : Int × Int) : PD := .tuple [.int p.1, .int p.2]
theorem pickI {xs : List Int} {lo hi i : Int} (h : ∀ x ∈ xs, lo ≤ x ∧ x ≤ hi) (h0 : 0 ≤ i) (h1 : i < xs.length) : ∃ z, lo ≤ z ∧ z ≤ hi ∧ atI (xs.map PyData.int) i = some (.int z) := by
  have e : i.toNat < xs.length := by omega
  have m := h _ (List.getElem_mem e)
  refine ⟨_, m.1, m.2, ?_⟩
  rw [atI_nn h0, List.getElem?_map, List.getElem?_eq_getElem e]
  rfl
def okT (ts : List (Int × Int)) : Prop := ∀ p ∈ ts, 1 ≤ p.1 ∧ p.1 ≤ 10 ^ 9 ∧ 1 ≤ p.2 ∧ p.2 ≤ 64
theorem at_th {ts : List (Int × Int)} {t : Nat} (h : t < ts.length) : atI (ts.map thD) (t : Int) = some (.tuple [.int (ts.getD t (1, 1)).1, .int (ts.getD t (1, 1)).2]) := by
  rw [atI_nn (by omega), List.getElem?_map]
  simp [thD, h]
theorem okT_at {ts : List (Int × Int)} {t : Nat} (o : okT ts) (h : t < ts.length) : 1 ≤ (ts.getD t (1, 1)).1 ∧ (ts.getD t (1, 1)).1 ≤ 10 ^ 9 ∧ 1 ≤ (ts.getD t (1, 1)).2 ∧ (ts.getD t (1, 1)).2 ≤ 64 := by
  apply o
  rw [List.getD_eq_getElem?_getD, List.getElem?_eq_getElem h]
  exact List.getElem_mem h
def natD (t : Nat) : PD := .int (t : Int)
theorem canLay_ints : ∀ l : List Int, PyData.canLayAll0 (l.map .int) = true
  | [] => by simp [PyData.canLayAll0]
  | i :: l => by simp [PyData.canLayAll0, PyData.canLay0, canLay_ints l]
theorem depth_ints : ∀ l : List Int, PyData.depthAll (l.map .int) = 0
  | [] => by simp [PyData.depthAll]
  | i :: l => by simp [PyData.depthAll, PyData.depth, depth_ints l]
theorem shaped_ints (l : List Int) : SeqAt.shaped (.list (l.map .int)) = true := by
  simp [SeqAt.shaped, PyData.canLay0, PyData.depth, canLay_ints, depth_ints]
theorem eqvAll_ints : ∀ l r : List Int, PyData.eqvAll (l.map .int) (r.map .int) = decide (l = r)
  | [], [] => by simp [PyData.eqvAll]
  | [], _ :: _ => by simp [PyData.eqvAll]
  | _ :: _, [] => by simp [PyData.eqvAll]
  | a :: l, b :: r => by
    simp only [List.map_cons, PyData.eqvAll, PyData.eqv, eqvAll_ints l r, beq_dec]
    rw [Bool.eq_iff_iff]
    simp
theorem eqv_ints (l r : List Int) : PyData.eqv (.list (l.map .int)) (.list (r.map .int)) = decide (l = r) := by
  rw [PyData.eqv, eqvAll_ints]
theorem strs2_none {x y : O} {l r : List PD} (h1 : toPD x = some (.list l)) : strs2 x y = none := by
  unfold strs2
  split
  · cases h1
  · rfl
theorem oNe_ints {x y : O} {l r : List Int} (h1 : toPD x = some (.list (l.map .int))) (h2 : toPD y = some (.list (r.map .int))) : oNe x y = some (.fz (.bool (!decide (l = r)))) := by
  unfold oNe oNeD
  rw [strs2_none (r := []) h1, h1, h2]
  simp [shaped_ints, eqv_ints]
theorem oEq_ints {x y : O} {l r : List Int} (h1 : toPD x = some (.list (l.map .int))) (h2 : toPD y = some (.list (r.map .int))) : oEq x y = some (.fz (.bool (decide (l = r)))) := by
  unfold oEq oEqD
  rw [strs2_none (r := []) h1, h1, h2]
  simp [shaped_ints, eqv_ints]
@[simp] theorem oNe_s {a b : Str} : oNe (.fz (.str a)) (.fz (.str b)) = some (.fz (.bool (!decide (a = b)))) := rfl
@[simp] theorem oEq_s {a b : Str} : oEq (.fz (.str a)) (.fz (.str b)) = some (.fz (.bool (decide (a = b)))) := rfl
theorem fPopAt_i {ds : List PD} {r : Int} (h0 : 0 ≤ r) (h1 : r < ds.length) (h2 : ds.length < 2 ^ 60) : ∃ d, ds[r.toNat]? = some d ∧ fPopAt ds [.int r] = some (d, ds.eraseIdx r.toNat) := by
  have e : r.toNat < ds.length := by omega
  refine ⟨ds[r.toNat], List.getElem?_eq_getElem e, ?_⟩
  have hb : big62 r = true := big62_of (by omega) (by omega)
  simp [fPopAt, hb, seqIndex_of h0 h1, List.getElem?_eq_getElem e]
theorem map_erase {α β : Type} (f : α → β) : ∀ (l : List α) (k : Nat), (l.map f).eraseIdx k = (l.eraseIdx k).map f
  | [], _ => rfl
  | _ :: _, 0 => rfl
  | a :: l, k + 1 => congrArg (f a :: ·) (map_erase f l k)
theorem up_mod {e b : Int} : up e b % b = 0 := Int.mul_emod_left _ _
theorem up_is {e b : Int} (hb : 0 < b) : e ≤ up e b ∧ up e b < e + b := by
  have h1 := Int.emod_nonneg (e + b - 1) (by omega : b ≠ 0)
  have h2 := Int.emod_lt_of_pos (e + b - 1) hb
  have h3 := Int.ediv_mul_add_emod (e + b - 1) b
  unfold up
  omega
theorem up_eq {e b p : Int} (hb : 0 < b) (h1 : e ≤ p) (h2 : p ≤ up e b) (h3 : p % b = 0) : p = up e b := by
  obtain ⟨u1, u2⟩ := up_is (e := e) hb
  have hm : (up e b - p) % b = 0 := by rw [Int.sub_emod, up_mod, h3]; simp
  rw [Int.emod_eq_of_lt (by omega) (by omega)] at hm
  omega
theorem cut_map {xs : List Int} {hi : Option Int} : cut (xs.map PyData.int) none hi = (cut xs none hi).map .int := by
  unfold cut
  rw [List.length_map, ← List.map_drop, ← List.map_take]
theorem cut_mem {xs : List Int} {hi : Option Int} {y : Int} (m : y ∈ cut xs none hi) : y ∈ xs := List.mem_of_mem_drop (List.mem_of_mem_take m)
theorem cut_len {xs : List Int} {hi : Option Int} : (cut xs none hi).length ≤ xs.length := by
  unfold cut
  rw [List.length_take, List.length_drop]
  omega
theorem rngD_at {n i : Nat} {x : PD} (h : (rngD 0 n)[i]? = some x) : x = .int (i : Int) ∧ i < n := by
  unfold rngD at h
  rw [List.getElem?_map] at h
  obtain ⟨j, e1, e2⟩ := Option.map_eq_some_iff.mp h
  have hi : i < n := by
    rcases Nat.lt_or_ge i n with z | z
    · exact z
    · rw [List.getElem?_eq_none (by simpa using z)] at e1; cases e1
  rw [List.getElem?_range hi] at e1
  cases e1
  exact ⟨by rw [← e2]; simp, hi⟩
theorem big62_s {i : Int} (h0 : -1000000 ≤ i) (h1 : i ≤ 1000000) : big62 i = true := big62_of (by omega) (by omega)
def rngI (n : Nat) : List Int := (List.range n).map fun i : Nat => (i : Int)
theorem rngD_map {n : Nat} : rngD 0 n = (rngI n).map .int := by
  unfold rngD rngI
  rw [List.map_map]
  apply List.map_congr_left
  intro i _
  simp
theorem rngI_mem {n : Nat} {y : Int} (m : y ∈ rngI n) : 0 ≤ y ∧ y < n := by
  unfold rngI at m
  obtain ⟨i, m2, rfl⟩ := List.mem_map.mp m
  have := List.mem_range.mp m2
  omega
@[simp] theorem oSl_l {ds : List PD} {lo hi : Option Int} : oSl (.fz (.list ds)) lo hi = some (.fz (.list (cut ds lo hi))) := rfl
theorem thD_fine {q : Int × Int} (h : 1 ≤ q.1 ∧ q.1 ≤ 10 ^ 9 ∧ 1 ≤ q.2 ∧ q.2 ≤ 64) : Fine 1 49 (thD q) :=
  (FineA.cons (Fine.int (by omega)) (FineA.cons (Fine.int (by omega)) FineA.nil)).tuple
theorem up_uniq {n b p : Int} (hb : 0 < b) (h1 : n ≤ p) (h2 : p < n + b) (h3 : p % b = 0) : p = up n b := by
  obtain ⟨u1, u2⟩ := up_is (e := n) hb
  have hm : (up n b - p) % b = 0 := by rw [Int.sub_emod, up_mod, h3]; simp
  have hm2 : (p - up n b) % b = 0 := by rw [Int.sub_emod, up_mod, h3]; simp
  rcases Int.le_total p (up n b) with z | z
  · rw [Int.emod_eq_of_lt (by omega) (by omega)] at hm
    omega
  · rw [Int.emod_eq_of_lt (by omega) (by omega)] at hm2
    omega
theorem up_neg {n b : Int} (hb : 0 < b) : n + (-n) % b = up n b := by
  have h1 := Int.emod_nonneg (-n) (by omega : b ≠ 0)
  have h2 := Int.emod_lt_of_pos (-n) hb
  refine up_uniq hb (by omega) (by omega) ?_
  rw [Int.add_emod, Int.emod_emod, ← Int.add_emod, Int.add_right_neg, Int.zero_emod]
theorem up_self {n b : Int} (hb : 0 < b) (h : n % b = 0) : up n b = n := (up_uniq hb (Int.le_refl _) (by omega) h).symm
theorem pickP {p : PD → Prop} {xs : List PD} {i : Int} (h : ∀ x ∈ xs, p x) (h0 : 0 ≤ i) (h1 : i < xs.length) : ∃ z, p z ∧ atI xs i = some z := by
  have e : i.toNat < xs.length := by omega
  exact ⟨_, h _ (List.getElem_mem e), by rw [atI_nn h0, List.getElem?_eq_getElem e]⟩
end FM
namespace FM
open PySem PySem.Spec L2 PyProof.Rows
/-! ### loops item by item, comparisons, pairs and places -/
section
variable {ρ : List O} {nx bk ct : List O → Prop} {rt : O → List O → Prop} {a : MS} {f : QG} {r : List O → Option (List O)}
@[simp] theorem wS_forNil : wS (forGo f a [] ρ) nx rt bk ct = nx ρ := rfl
theorem wS_forCons {x : PD} {xs : List PD} : wS (forGo f a (x :: xs) ρ) nx rt bk ct = ∃ ρ1, f x ρ = some ρ1 ∧ wS (a ρ1) (fun ρ2 => wS (forGo f a xs ρ2) nx rt bk ct) rt nx (fun ρ2 => wS (forGo f a xs ρ2) nx rt bk ct) := by
  have e : forGo f a (x :: xs) ρ = match f x ρ with
    | none => .bad
    | some ρ1 => match a ρ1 with
      | .next ρ2 => forGo f a xs ρ2
      | .cont ρ2 => forGo f a xs ρ2
      | .brk ρ2 => .next ρ2
      | .ret o ρ2 => .ret o ρ2
      | .exc x ρ2 => .exc x ρ2
      | .bad => .bad := rfl
  rw [e]
  cases e1 : f x ρ with
  | none => simp [wS]
  | some ρ1 =>
    cases e2 : a ρ1 <;> simp [wS, e2]
@[simp] theorem qRng2_eq : qRng2 r ρ = match r ρ with
    | some [.fz (.int i), .fz (.int j)] => if big62 i && big62 j then some (rngD i (j - i).toNat) else none
    | _ => none := rfl
theorem oStr_i {i : Int} (h : i.natAbs < 2 ^ 1900) : oStr [.fz (.int i)] = some (.fz (.str (toString i))) := if_pos h
theorem oNe_self {d : PD} (h : SeqAt.shaped d = true) : oNe (.fz d) (.fz d) = some (.fz (.bool false)) := by
  have hc : d.canLay0 = true := by unfold SeqAt.shaped at h; simp at h; exact h.1
  unfold oNe
  cases e : strs2 (.fz d) (.fz d) with
  | some p =>
    obtain ⟨e1, e2⟩ := strs2_eq e
    have e3 := e1.symm.trans e2
    have e4 : p.1 = p.2 := by
      injection e3 with e3
      injection e3
    simp [e4]
  | none => simp [oNeD, h, SeqAt.eqv_refl d hc]
theorem oEq_self {d : PD} (h : SeqAt.shaped d = true) : oEq (.fz d) (.fz d) = some (.fz (.bool true)) := by
  have hc : d.canLay0 = true := by unfold SeqAt.shaped at h; simp at h; exact h.1
  unfold oEq
  cases e : strs2 (.fz d) (.fz d) with
  | some p =>
    obtain ⟨e1, e2⟩ := strs2_eq e
    have e3 := e1.symm.trans e2
    have e4 : p.1 = p.2 := by
      injection e3 with e3
      injection e3
    simp [e4]
  | none => simp [oEqD, h, SeqAt.eqv_refl d hc]
theorem shaped_nil : SeqAt.shaped (.list []) = true := by simp [SeqAt.shaped, PyData.canLay0, PyData.canLayAll0, PyData.depth, PyData.depthAll]
theorem oNe_nil {ds : List PD} (h : SeqAt.shaped (.list ds) = true) : oNe (.fz (.list ds)) (.fz (.list [])) = some (.fz (.bool (!ds.isEmpty))) := by
  unfold oNe
  rw [strs2_none (l := ds) (r := []) rfl]
  cases ds <;> simp [oNeD, h, shaped_nil, PyData.eqv, PyData.eqvAll]
theorem oEq_nil {ds : List PD} (h : SeqAt.shaped (.list ds) = true) : oEq (.fz (.list ds)) (.fz (.list [])) = some (.fz (.bool ds.isEmpty)) := by
  unfold oEq
  rw [strs2_none (l := ds) (r := []) rfl]
  cases ds <;> simp [oEqD, h, shaped_nil, PyData.eqv, PyData.eqvAll]
end
theorem boolsD_fun {α : Type} {g : α → Bool} (xs : List α) : boolsD (xs.map fun x => .bool (g x)) = some (xs.map g) := by
  have := boolsD_map (xs.map g)
  rwa [List.map_map] at this
theorem oAll_map {α : Type} {g : α → Bool} {xs : List α} : oAll [.fz (.list (xs.map fun x => .bool (g x)))] = some (.fz (.bool (xs.all g))) := by
  rw [oAll_l, boolsD_fun, Option.map_some, List.all_map]
  rfl
theorem oAny_map {α : Type} {g : α → Bool} {xs : List α} : oAny [.fz (.list (xs.map fun x => .bool (g x)))] = some (.fz (.bool (xs.any g))) := by
  rw [oAny_l, boolsD_fun, Option.map_some, List.any_map]
  rfl
theorem at_pl {pl : List Int} {t : Nat} (h : t < pl.length) : atI (pl.map PyData.int) (t : Int) = some (.int (pl.getD t 0)) := by
  rw [atI_nn (by omega), List.getElem?_map]
  simp [h]
def prD (q : Nat × Nat) : PD := .tuple [.int (q.1 : Int), .int (q.2 : Int)]
def okP (m : Nat) (ps : List (Nat × Nat)) : Prop := ∀ q ∈ ps, q.1 < q.2 ∧ q.2 < m
def lieO (p s p' s' : Int) : Bool := decide (p < p' + s') && decide (p' < p + s)
def overG (ts : List (Int × Int)) (pl : List Int) (q : Nat × Nat) : Bool := lieO (pl.getD q.1 0) (ts.getD q.1 (1, 1)).1 (pl.getD q.2 0) (ts.getD q.2 (1, 1)).1
def pOk (b : Int) : PD → Bool
  | .int i => decide (0 ≤ i) && decide (i % b = 0)
  | _ => false
def allOk : List PD → List (Int × Int) → Bool
  | x :: ds, t :: ts => pOk t.2 x && allOk ds ts
  | _, _ => true
def placesOk (ts : List (Int × Int)) : PD → Bool
  | .list ds => decide (ds.length = ts.length) && allOk ds ts
  | _ => false
theorem allOk_ints : ∀ {ds : List PD} {ts : List (Int × Int)}, ds.length = ts.length → allOk ds ts = true → ∃ pl : List Int, ds = pl.map .int ∧ pl.length = ts.length
  | [], [], _, _ => ⟨[], rfl, rfl⟩
  | [], _ :: _, h, _ => by cases h
  | _ :: _, [], h, _ => by cases h
  | x :: ds, t :: ts, hl, h => by
    simp [allOk] at h
    obtain ⟨pl, rfl, l⟩ := allOk_ints (by simpa using hl) h.2
    cases x with
    | int i => exact ⟨i :: pl, rfl, by simp [l]⟩
    | _ => simp [pOk] at h
theorem placesOk_ints {ts : List (Int × Int)} {d : PD} (h : placesOk ts d = true) : ∃ pl : List Int, d = .list (pl.map .int) ∧ pl.length = ts.length := by
  cases d with
  | list ds =>
    simp [placesOk] at h
    obtain ⟨pl, rfl, l⟩ := allOk_ints h.1 h.2
    exact ⟨pl, rfl, l⟩
  | _ => simp [placesOk] at h
theorem allOk_of : ∀ {pl : List Int} {ts : List (Int × Int)}, pl.length = ts.length → (∀ t, t < ts.length → 0 ≤ pl.getD t 0 ∧ pl.getD t 0 % (ts.getD t (1, 1)).2 = 0) → allOk (pl.map .int) ts = true
  | [], [], _, _ => rfl
  | [], _ :: _, h, _ => by cases h
  | _ :: _, [], h, _ => by cases h
  | p :: pl, t :: ts, hl, h => by
    have h0 := h 0 (by simp)
    have ih := allOk_of (pl := pl) (ts := ts) (by simpa using hl) fun j hj => by
      have := h (j + 1) (by simpa using hj)
      simpa using this
    simp at h0
    simp [allOk, pOk, ih, h0]
theorem placesOk_of {pl : List Int} {ts : List (Int × Int)} (hl : pl.length = ts.length) (h : ∀ t, t < ts.length → 0 ≤ pl.getD t 0 ∧ pl.getD t 0 % (ts.getD t (1, 1)).2 = 0) : placesOk ts (.list (pl.map .int)) = true := by
  simp [placesOk, hl, allOk_of hl h]
def prsD (o : Option (Nat × Nat)) : PD := match o with
  | some q => prD q
  | none => .none
theorem prs_fine {m : Nat} {ps : List (Nat × Nat)} (h : okP m ps) (hm : m ≤ 1000000) : Fine 2 (ps.length * 51 + 2) (.list (ps.map prD)) := by
  have := (FineA.all (ds := ps.map prD) (h := 1) (n := 49) (fun d mm => by
    obtain ⟨q, mq, rfl⟩ := List.mem_map.mp mm
    have := h q mq
    exact (FineA.cons (Fine.int (by omega)) (FineA.cons (Fine.int (by omega)) FineA.nil)).tuple)).list
  rwa [List.length_map] at this
theorem ths_fine {ts : List (Int × Int)} (ho : okT ts) : Fine 2 (ts.length * 51 + 3) (.tuple (ts.map thD)) := by
  have := (FineA.all (ds := ts.map thD) (h := 1) (n := 49) (fun d m => by
    obtain ⟨q, mq, rfl⟩ := List.mem_map.mp m
    exact thD_fine (ho q mq))).tuple
  rwa [List.length_map] at this
theorem ints_fine {xs : List Int} (h : ∀ x ∈ xs, x.natAbs < 2 ^ 64) : Fine 1 (xs.length * 23 + 2) (.list (xs.map .int)) := by
  have := (FineA.all (ds := xs.map .int) (h := 0) (n := 21) (fun d m => by
    obtain ⟨q, mq, rfl⟩ := List.mem_map.mp m
    exact Fine.int (h q mq))).list
  rwa [List.length_map] at this
theorem rngD_atL {lo : Int} {n i : Nat} {x : PD} (h : (rngD lo n)[i]? = some x) : x = .int (lo + (i : Int)) ∧ i < n := by
  unfold rngD at h
  rw [List.getElem?_map] at h
  obtain ⟨j, e1, e2⟩ := Option.map_eq_some_iff.mp h
  have hi : i < n := by
    rcases Nat.lt_or_ge i n with z | z
    · exact z
    · rw [List.getElem?_eq_none (by simpa using z)] at e1; cases e1
  rw [List.getElem?_range hi] at e1
  cases e1
  exact ⟨e2.symm, hi⟩
@[simp] theorem rngD_len {lo : Int} {n : Nat} : (rngD lo n).length = n := by simp [rngD]
end FM
namespace FM
open PySem PySem.Spec L2 PyProof.Rows
open PySem.W (dataLe EachIs AllAlike Sortable alike)
/-! ### sorted of data of one kind -/
def rSortedX (K : Frag) : List V → Hp → VK → Prop := fun vs H Q => ∃ (a : Addr) (zs : List (V × PD)), vs = [V.ref a] ∧ SqL K H a (zs.map Prod.fst) ∧ (∀ z ∈ zs, Dp K H z.1 z.2) ∧ AllAlike (zs.map Prod.snd) ∧ Sortable (zs.map Prod.snd) ∧ (∀ z ∈ zs, z.2.depth ≤ 40) ∧
  ∀ p, H p = none → Q (.ref p) (upd H p (.lst ((zs.mergeSort (dataLe false Prod.snd)).map Prod.fst)))
theorem each_vals : ∀ {zs : List (V × PD)} {us : List Value}, Vals (zs.map Prod.fst) us → EachIs (fun v (b : V × PD) => RelV b.1 v) us zs
  | [], _, r => by
    cases r
    exact .nil
  | z :: zs, _, r => by
    cases r with
    | cons h t => exact .cons h (each_vals t)
theorem vals_each : ∀ {zs : List (V × PD)} {us : List Value}, EachIs (fun v (b : V × PD) => RelV b.1 v) us zs → Vals (zs.map Prod.fst) us
  | [], _, r => by
    cases r
    exact .nil
  | z :: zs, _, r => by
    cases r with
    | cons h t => exact .cons h (vals_each t)
theorem each_in {R : Value → V × PD → Prop} : ∀ {zs : List (V × PD)} {us : List Value}, EachIs R us zs → EachIs (fun v b => R v b ∧ b ∈ zs) us zs
  | [], _, r => by
    cases r
    exact .nil
  | z :: zs, _, r => by
    cases r with
    | cons h t => exact .cons ⟨h, List.mem_cons_self⟩ ((each_in t).mono fun a b q => ⟨q.1, List.mem_cons_of_mem _ q.2⟩)
theorem cr_sortedX {X : Cx} (hu : X.A.units + 64 < cLine) : CallR X (.builtin "sorted") (rSortedX X.K) := by
  intro pins s σ H vs us Q I r h
  obtain ⟨a, zs, rfl, hs, hd, hal, hk, hdp, q⟩ := h
  obtain ⟨its, rv, hl, hz⟩ := I.list hs
  rw [Vals.ref1 r]
  have e := each_vals rv
  have er : EachIs (fun v (b : V × PD) => ∃ as, Reads s.heap v b.2 as) its zs := (each_in e).mono fun v b ⟨h1, h2⟩ => Dp.reads I b.2 b.1 v (hd b h2) h1
  have hL : zs.length ≤ sizeLine := by rw [List.length_map] at hz; exact hz
  refine PySem.W.sorted_data (enc := Prod.snd) hl.isList e er hal hk hL (fun b m => by have := hdp b m; omega) fun out ho hr => ?_
  have rv2 := vals_each hr
  obtain ⟨ep, he⟩ := PyProof.Rows.sortedAll_at s.heap its out.toArray
  have hlen : ((zs.mergeSort (dataLe false Prod.snd)).map Prod.fst).length ≤ sizeLine := by
    rw [List.length_map, List.length_mergeSort]
    exact hL
  exact ⟨.ref _, upd H (s.heap.objs.size + 1) (.lst ((zs.mergeSort (dataLe false Prod.snd)).map Prod.fst)), I.laid (t' := s.toks) (fun _ _ => PyProof.Rows.sortedAll_old) (Nat.le_succ _) ⟨hlen, out, ep, rv2, he⟩, rfl, q _ (I.hok.fresh (Nat.le_succ _))⟩
def rSortedU (K : Frag) : List V → Hp → VK → Prop := fun vs H Q => rSortedI K vs H Q ∨ rSortedX K vs H Q
theorem cr_sortedU {X : Cx} (hu : X.A.units + 64 < cLine) : CallR X (.builtin "sorted") (rSortedU X.K) := by
  intro pins s σ H vs us Q I r h
  rcases h with h | h
  · exact cr_sortedI pins s σ H vs us Q I r h
  · exact cr_sortedX hu pins s σ H vs us Q I r h
def tupC : PD → Bool
  | .tuple (_ :: _) => true
  | _ => false
def notNT : PD → Bool
  | .none => false
  | .tuple _ => false
  | _ => true
def sortC (ds : List PD) : Bool := ds.all (fun d => ds.all fun e => alike d e) && (ds.all tupC || ds.all notNT) && ds.all (fun d => decide (d.depth ≤ 40) && d.canLay0)
def sortD (ds : List PD) : List PD := ds.mergeSort (dataLe false id)
def oSortU : List O → Option O
  | [x] => match seqL x with
    | some ds => match intsD ds with
      | some ns => some (.lst ((sortI ns).map .int))
      | none => if sortC ds then some (.lst (sortD ds)) else none
    | none => none
  | _ => none
theorem reps_mem {K : Frag} {F : Hp} : ∀ {l : List (V × PD)}, (∀ z ∈ l, Rep K F z.1 z.2) → Reps K F (l.map Prod.fst) (l.map Prod.snd)
  | [], _ => .nil
  | z :: l, h => .cons (h z List.mem_cons_self) (reps_mem fun y m => h y (List.mem_cons_of_mem _ m))
theorem zip_reps {K : Frag} {F : Hp} : ∀ {vs : List V} {ds : List PD}, Reps K F vs ds → (∀ z ∈ vs.zip ds, Rep K F z.1 z.2) ∧ (vs.zip ds).map Prod.fst = vs ∧ (vs.zip ds).map Prod.snd = ds
  | _, _, .nil => ⟨fun z m => by simp at m, rfl, rfl⟩
  | v :: vs, d :: ds, .cons h r => by
    obtain ⟨h1, h2, h3⟩ := zip_reps r
    refine ⟨fun z m => ?_, by simp [h2], by simp [h3]⟩
    rcases List.mem_cons.mp (by simpa using m) with e | m
    · rw [e]; exact h
    · exact h1 z m
theorem cn_sortU {k : Kc} : CbN k (rSortedU k.K) oSortU := by
  intro F H S xs os o Q f off th ws e h
  unfold oSortU at e
  split at e
  · cases ws with
    | cons w ws =>
      cases ws
      split at e
      · rename_i ds es
        obtain ⟨a, vs, rfl, g1, g2⟩ := w.seqL f es
        split at e
        · rename_i ns en
          cases e
          have e3 := intsD_eq en
          subst e3
          rw [reps_ints g2] at g1
          refine .inl ⟨a, ns, rfl, g1, fun ns' p hp hs hn => ?_⟩
          rw [sorted_unique (hp.trans (sortI_perm ns).symm) hs (sortI_sorted ns)]
          exact own_list f (ints_reps (sortI ns)) h p hn
        · split at e
          · rename_i hc
            cases e
            obtain ⟨z1, z2, z3⟩ := zip_reps g2
            unfold sortC at hc
            simp only [Bool.and_eq_true] at hc
            obtain ⟨⟨c1, c2⟩, c3⟩ := hc
            have hm : ∀ z ∈ vs.zip ds, z.2 ∈ ds := fun z m => by rw [← z3]; exact List.mem_map.mpr ⟨z, m, rfl⟩
            have c3' : ∀ d ∈ ds, d.depth ≤ 40 ∧ d.canLay0 = true := fun d m => by
              have := List.all_eq_true.mp c3 d m
              simp at this
              exact this
            have srt : ((vs.zip ds).mergeSort (dataLe false Prod.snd)).map Prod.snd = sortD ds := by
              have e1 := PySem.W.sort_maps (r := dataLe false Prod.snd) (s := dataLe false id) (Prod.snd : V × PD → PD) (l := vs.zip ds) (fun _ _ _ _ => rfl)
              rw [e1, z3]
              rfl
            refine .inr ⟨a, vs.zip ds, rfl, by rw [z2]; exact g1, fun z m => ((z1 z m).le f).dp (c3' _ (hm z m)).2, ?_, ?_, fun z m => (c3' _ (hm z m)).1, fun p hn => ?_⟩
            · rw [z3]
              intro d m d' m'
              exact List.all_eq_true.mp (List.all_eq_true.mp c1 d m) d' m'
            · rw [z3]
              rcases Bool.or_eq_true_iff.mp c2 with c2 | c2
              · refine .inl fun d m => ?_
                have := List.all_eq_true.mp c2 d m
                unfold tupC at this
                split at this
                · exact ⟨_, _, rfl⟩
                · cases this
              · refine .inr fun d m => ?_
                have := List.all_eq_true.mp c2 d m
                cases d with
                | none => cases this
                | tuple ds => cases this
                | _ => exact ⟨by simp, by simp⟩
            · have rr := reps_mem (K := k.K) (F := F) (l := (vs.zip ds).mergeSort (dataLe false Prod.snd)) fun z m => z1 z (List.mem_mergeSort.mp m)
              rw [srt] at rr
              exact own_list f rr h p hn
          · cases e
      · cases e
  · cases e
end FM
namespace FM
open PySem PySem.Spec L2 PyProof.Rows
/-! ### range(i, j, c) -/
def rngC (lo c : Int) (n : Nat) : List PD := (List.range n).map fun i => PyData.int (lo + (i : Nat) * c)
theorem walkD_rangeC {k : Kc} {P : Hp → Hp → Prop} {lo c : Int} {n : Nat} : WalkD k P (Itc lo c n) (rngC lo c n) := by
  have hl : (rngC lo c n).length = n := by simp [rngC]
  refine ⟨fun i F H hi _ _ => ?_, fun F H _ _ => ?_, fun i F H x H' hi p f y => ?_⟩
  · show i < n
    omega
  · show n ≤ (rngC lo c n).length
    omega
  · obtain ⟨rfl, rfl⟩ := y
    refine ⟨F, Xt.refl f, ?_⟩
    rw [show (rngC lo c n)[i] = PyData.int (lo + (i : Nat) * c) by simp [rngC]]
    exact .int _
def rgC (i j c : Int) : Bool := decide (c ≠ 0) && decide (c.natAbs < 1073741824) && Builtin.Range.small i j c
def qRng3 (r : List O → Option (List O)) : QI := fun ρ => match r ρ with
  | some [.fz (.int i), .fz (.int j), .fz (.int c)] => if rgC i j c then some (rngC i c (Builtin.Range.rangeSize i j c).toNat) else none
  | _ => none
theorem tif_rng3 {k : Kc} {ta : TA} {qs : List O → Option (List O)} (ha : TAv k ta qs) : TIf k (iRng3 ta) (qRng3 qs) := by
  intro F H σ ρ S ds R q e g
  unfold qRng3 at e
  split at e
  · rename_i i j c e1
    split at e
    · rename_i hz
      cases e
      unfold rgC at hz
      simp only [Bool.and_eq_true, decide_eq_true_eq] at hz
      refine ha F H σ ρ S _ _ q e1 fun vs F1 H1 x1 w1 => ?_
      cases w1 with
      | cons w ws =>
        cases ws with
        | cons w2 ws =>
          cases ws with
          | cons w3 ws =>
            cases ws
            have ew := w.int
            have ew2 := w2.int
            have ew3 := w3.int
            subst ew ew2 ew3
            exact ⟨i, j, c, _, rfl, ⟨hz.1.1, hz.1.2, hz.2, PyProof.Rows.rangeSize_toNat i j c⟩, g _ F1 H1 x1 walkD_rangeC⟩
    · cases e
  · cases e
@[simp] theorem qRng3_eq {r : List O → Option (List O)} {ρ : List O} : qRng3 r ρ = match r ρ with
    | some [.fz (.int i), .fz (.int j), .fz (.int c)] => if rgC i j c then some (rngC i c (Builtin.Range.rangeSize i j c).toNat) else none
    | _ => none := rfl
end FM
namespace FM
open PySem PySem.Spec L2 PyProof.Rows
/-! ### d[k] = v, and [..] * n as a list of one's own -/
def putD {κ : Type} [DecidableEq κ] {α : Type} (kvs : List (κ × α)) (k : κ) (v : α) : List (κ × α) :=
  if (kvs.any fun kv => decide (kv.1 = k)) then kvs.map (fun kv => if kv.1 = k then (kv.1, v) else kv) else kvs ++ [(k, v)]
theorem RepK.any {K : Frag} {F : Hp} (x : Key) : ∀ {vs : List (Key × V)} {ds : List (Key × PD)}, RepK K F vs ds → (vs.any fun kv => decide (kv.1 = x)) = (ds.any fun kv => decide (kv.1 = x))
  | _, _, .nil => rfl
  | _, _, .cons h r => by simp only [List.any_cons, RepK.any x r]
theorem RepK.len' {K : Frag} {F : Hp} : ∀ {vs : List (Key × V)} {ds : List (Key × PD)}, RepK K F vs ds → vs.length = ds.length
  | _, _, .nil => rfl
  | _, _, .cons h r => congrArg (· + 1) (RepK.len' r)
theorem RepK.maps {K : Frag} {F : Hp} {x : Key} {v : V} {d : PD} (h0 : Rep K F v d) : ∀ {vs : List (Key × V)} {ds : List (Key × PD)}, RepK K F vs ds → RepK K F (vs.map fun kv => if kv.1 = x then (kv.1, v) else kv) (ds.map fun kv => if kv.1 = x then (kv.1, d) else kv)
  | _, _, .nil => .nil
  | (k, w) :: _, (_, e) :: _, .cons h r => by
    have ih := RepK.maps (x := x) h0 r
    simp only [List.map_cons]
    by_cases c : k = x
    · rw [if_pos c, if_pos c]; exact .cons h0 ih
    · rw [if_neg c, if_neg c]; exact .cons h ih
theorem RepK.snoc {K : Frag} {F : Hp} {x : Key} {v : V} {d : PD} (h0 : Rep K F v d) : ∀ {vs : List (Key × V)} {ds : List (Key × PD)}, RepK K F vs ds → RepK K F (vs ++ [(x, v)]) (ds ++ [(x, d)])
  | _, _, .nil => .cons h0 .nil
  | _, _, .cons h r => .cons h (RepK.snoc h0 r)
theorem RepK.put {K : Frag} {F : Hp} {x : Key} {v : V} {d : PD} {vs : List (Key × V)} {ds : List (Key × PD)} (r : RepK K F vs ds) (h0 : Rep K F v d) : RepK K F (putK vs x v) (putD ds x d) := by
  unfold putK putD
  rw [r.any x]
  split
  · exact RepK.maps h0 r
  · exact RepK.snoc h0 r
section
variable {k : Kc} {E : XK}
theorem StW.dicAt {P : List (Nat × V)} {e : Ent} {σ : L2.St} {ρ : List O} {vs : List V} {os : List O} {F H : Hp} {S1 S2 : List Addr} {i : Nat} {ds : List (Key × PD)} (s : StW k P e σ ρ vs os F H S1 S2) (e0 : qVar i ρ = some (.dic ds)) :
    ∃ a ws, σ[i]? = some (some (.ref a)) ∧ H a = some (.dK ws) ∧ RepK k.K F ws ds ∧ ∀ ws' ds', RepK k.K F ws' ds' → ∃ U, StW k P e σ (ρ.set i (.dic ds')) vs os F (upd H a (.dK ws')) U S2 := by
  obtain ⟨env, tmp, fr, pin⟩ := s
  obtain ⟨g1, g2⟩ := qVar_some e0
  obtain ⟨v, T, R, a1, a2, a3, a4⟩ := env.take g1 g2
  cases a2 with
  | @dic a ws _ h r =>
    have frz : Fr e F H (a :: (R ++ S2)) := Sbp.fr fr (.of_count fun b => by
      have c2 := a4.count_eq b
      simp only [List.count_append, List.count_cons, List.count_nil] at c2 ⊢
      omega)
    have ha : H a = some (.dK ws) := by
      rcases h with h | ⟨ob, h⟩
      · exact h
      · exact (frz.nofz a List.mem_cons_self ob _ h).elim
    refine ⟨a, ws, a1, ha, r, fun ws' ds' r' => ?_⟩
    have nd := List.nodup_cons.mp frz.nd
    have keep : ∀ U : List Addr, (∀ b ∈ U, b ∈ R ++ S2) → At U H (upd H a (.dK ws')) := fun U m b mb u z => by
      rw [upd_ne (fun q => nd.1 (by rw [← q]; exact m b mb))]
      exact z
    have fw := frz.write (a := a) (o := .dK ws') List.mem_cons_self (fun _ _ z => by cases z)
    have env3 := a3.mono (Same.refl F) (keep R fun b m => List.mem_append_left _ m)
    have tmp3 := tmp.mono (Same.refl F) (keep S2 fun b m => List.mem_append_right _ m)
    obtain ⟨U, mU, q⟩ := env3.put (i := i) a1 (Own.dic (k := k) (F := F) (.inl upd_same) r')
    rw [List.set_set] at q
    exact ⟨U, q, tmp3, Sbp.fr fw (.of_count fun b => by
      have := mU.count b
      simp only [List.count_append, List.count_cons, List.count_nil] at this ⊢
      omega), pin⟩
def rSetU : TSet := fun o i v H Q => rSetL o i v H Q ∨ rSetD o i v H Q
theorem set_U {X : Cx} (hu : X.A.units + 1 < cLine) : PSet X rSetU := by
  intro pins s σ H o i v ov iv u Q I ro ri rv h
  rcases h with h | h
  · exact set_list pins s σ H o i v ov iv u Q I ro ri rv h
  · exact set_dict hu pins s σ H o i v ov iv u Q I ro ri rv h
def sSetU (s : Nat) (qi : QE) (m : M O) : MS := fun ρ => match m ρ with
  | .ok (.fz d) ρ1 => match qVar s ρ1 with
    | some (.lst ds) => match qi ρ1 with
      | some (.fz i) => match fSetI ds i d with
        | some ds' => .next (ρ1.set s (.lst ds'))
        | none => .bad
      | _ => .bad
    | some (.dic kvs) => match qi ρ1 with
      | some i => match keyO i with
        | some x => if kvs.length < sizeLine then .next (ρ1.set s (.dic (putD kvs x d))) else .bad
        | none => .bad
      | none => .bad
    | _ => .bad
  | .ok _ _ => .bad
  | .exc x ρ1 => .exc x ρ1
  | .bad => .bad
theorem tsm_setU {s : Nat} {te ti : TE} {m : M O} {qi : QE} (h : TEm k E te m) (hi : TEv k ti qi) : TSm k E [] (tAsg te (gSub (tVar s) ti rSetU)) (sSetU s qi m) := by
  intro P e σ ρ vs os H D o st g
  refine h P e σ ρ vs os H _ st ?_
  unfold sSetU at g
  cases e1 : m ρ with
  | exc x ρ1 => rw [e1] at g; exact g.exc
  | bad => rw [e1] at g; exact g
  | ok z ρ1 =>
    rw [e1] at g
    intro v H1 s1
    cases z with
    | fz d =>
      simp only at g
      obtain ⟨F, S1, S2, s1⟩ := s1
      split at g
      · rename_i ds e2
        split at g
        · rename_i i e3
          obtain ⟨a, ws, a1, a2, a3, a4⟩ := s1.lstAt e2
          refine ⟨.ref a, a1, hi F H1 σ ρ1 S1 _ _ s1.qs e3 fun w F2 H2 x2 w2 => ?_⟩
          have s2 := s1.xt x2
          obtain ⟨a', ws2, b1, b2, b3, b4⟩ := s2.lstAt e2
          rw [a1] at b1
          cases b1
          have rd := s2.top.1
          cases e4 : fSetI ds i d with
          | none => rw [e4] at g; exact g.elim
          | some ds' =>
            rw [e4] at g
            unfold fSetI at e4
            split at e4
            · rename_i j
              obtain ⟨n, e5, e6⟩ := Option.map_eq_some_iff.mp e4
              subst e6
              have ew := w2.int
              subst ew
              refine .inl ⟨a, ws2, j, n, rfl, rfl, b2, by rw [b3.length]; exact e5, ?_⟩
              obtain ⟨U, s5⟩ := b4 _ _ (b3.set rd n)
              obtain ⟨_, s6⟩ := s5.top
              exact g σ _ ⟨F2, U, S2, s6⟩
            · cases e4
        · exact g.elim
      · rename_i kvs e2
        split at g
        · rename_i i e3
          split at g
          · rename_i x e4
            split at g
            · rename_i hz
              obtain ⟨a, ws, a1, a2, a3, a4⟩ := s1.dicAt e2
              refine ⟨.ref a, a1, hi F H1 σ ρ1 S1 _ _ s1.qs e3 fun w F2 H2 x2 w2 => ?_⟩
              have s2 := s1.xt x2
              obtain ⟨a', ws2, b1, b2, b3, b4⟩ := s2.dicAt e2
              rw [a1] at b1
              cases b1
              have rd := s2.top.1
              have ew := w2.keyO e4
              subst ew
              refine .inr ⟨a, _, rfl, DPut.k b2 (by rw [b3.len']; exact hz), ?_⟩
              obtain ⟨U, s5⟩ := b4 _ _ (b3.put rd)
              obtain ⟨_, s6⟩ := s5.top
              exact g σ _ ⟨F2, U, S2, s6⟩
            · exact g.elim
          · exact g.elim
        · exact g.elim
      · exact g.elim
    | _ => exact g.elim
theorem Fresh.back {F F1 F2 H H1 H2 : Hp} {T : List Addr} (f : Fresh F2 H1 H2 T) (x : Xt F H F1 H1) : Fresh F2 H H2 T := ⟨f.nd, fun a m => none_back x.ex (f.new a m), f.off, f.nofz⟩
def OpN (k : Kc) (r : R2) (f : O → O → Option O) : Prop := ∀ (F H : Hp) (S : List Addr) (x y : V) (ox oy o : O) (Q : VK), FLe F H → (∀ a ∈ S, F a = none) → (∀ a ∈ S, Th H a) → Vw k F H S x ox → Vw k F H S y oy → f ox oy = some o → (∀ v F' H' T, Xt F H F' H' → Own k F' H' v o T → Fresh F' H H' T → Q v H') → r x y H Q
theorem ten_op {ta tb : TE} {qa qb : QE} {r : R2} {f : O → O → Option O} (ha : TEv k ta qa) (hb : TEv k tb qb) (hr : OpN k r f) : TEn k (tOp r ta tb) (qOp f qa qb) := by
  intro F H σ ρ S o Q q e h
  unfold qOp at e
  split at e
  · cases e
  · rename_i x e1
    split at e
    · cases e
    · rename_i y e2
      refine ha F H σ ρ S x _ q e1 fun v F1 H1 x1 w1 => hb F1 H1 σ ρ S y _ (q.xt x1) e2 fun w F2 H2 x2 w2 => ?_
      have q2 := (q.xt x1).xt x2
      exact hr F2 H2 S v w x y o Q x2.fle q2.off q2.env.there (w1.xt x2) w2 e fun z F3 H3 T x3 w3 f3 => h z F3 H3 T ((x1.trans x2).trans x3) w3 (f3.back (x1.trans x2))
def repOk (n : Nat) (b : Int) : Prop := -(2 ^ 63) ≤ b ∧ b < 2 ^ 63 ∧ n * b.toNat ≤ sizeLine
open Classical in
noncomputable def oMulN (x y : O) : Option O := match y with
  | .fz (.int b) => match seqL x with
    | some a => if repOk a.length b then some (.lst (List.replicate b.toNat a).flatten) else none
    | none => none
  | _ => none
theorem on_mul : OpN k (rMulU k.K) oMulN := by
  intro F H S x y ox oy o Q f off th wx wy e h
  unfold oMulN at e
  split at e
  · split at e
    · rename_i a ea
      split at e
      · rename_i hz
        cases e
        obtain ⟨p, vs, rfl, hs, rs⟩ := wx.seqL f ea
        exact .inr ⟨p, _, vs, rfl, wy.int, hs, hz.1, hz.2.1, by rw [rs.length]; exact hz.2.2, own_list f (rs.rep _) h⟩
      · cases e
    · cases e
  · cases e
end
section
variable {ρ : List O} {nx bk ct : List O → Prop} {rt : O → List O → Prop} {m : M O} {qi : QE}
@[simp] theorem wS_setU {s : Nat} : wS (sSetU s qi m ρ) nx rt bk ct = wM (m ρ) fun o ρ1 => ∃ d, o = .fz d ∧ match qVar s ρ1 with
    | some (.lst ds) => ∃ i, qi ρ1 = some (.fz i) ∧ ∃ ds', fSetI ds i d = some ds' ∧ nx (ρ1.set s (.lst ds'))
    | some (.dic kvs) => ∃ i, qi ρ1 = some i ∧ ∃ x, keyO i = some x ∧ kvs.length < sizeLine ∧ nx (ρ1.set s (.dic (putD kvs x d)))
    | _ => False := by
  unfold sSetU
  cases e : m ρ with
  | ok o ρ1 =>
    cases o with
    | fz d =>
      simp only [wM_ok]
      cases e2 : qVar s ρ1 with
      | none => simp [wS, e2]
      | some z =>
        cases z with
        | lst ds =>
          cases e3 : qi ρ1 with
          | none => simp [wS, e2, e3]
          | some y =>
            cases y with
            | fz i => cases e4 : fSetI ds i d <;> simp [wS, e2, e3, e4]
            | _ => simp [wS, e2, e3]
        | dic kvs =>
          cases e3 : qi ρ1 with
          | none => simp [wS, e2, e3]
          | some y =>
            cases e4 : keyO y with
            | none => simp [wS, e2, e3, e4]
            | some x =>
              by_cases hz : kvs.length < sizeLine
              · simp [e2, e3, e4, hz]
                rfl
              · simp [wS, e2, e3, e4, hz]
        | _ => simp [wS, e2]
    | _ => simp [wS]
  | _ => rfl
@[simp] theorem keyO_i {i : Int} : keyO (.fz (.int i)) = some (.inl i) := rfl
@[simp] theorem keyO_s {x : Str} : keyO (.fz (.str x)) = some (.inr x) := rfl
theorem oMulN_i {ds : List PD} {b : Int} (h1 : -(2 ^ 63) ≤ b) (h2 : b < 2 ^ 63) (h3 : ds.length * b.toNat ≤ sizeLine) : oMulN (.fz (.list ds)) (.fz (.int b)) = some (.lst (List.replicate b.toNat ds).flatten) := by
  have c : repOk ds.length b := ⟨h1, h2, h3⟩
  unfold oMulN
  simp only [seqL]
  rw [if_pos c]
end
end FM
namespace FM
open PySem PySem.Spec L2 PyProof.Rows
open PySem.W (dataLe alike dataLt)
/-! ### orders, pairs, dicts of numbers, lists built item by item -/
theorem cut_take {α : Type} {xs : List α} {k : Nat} : cut xs none (some (k : Int)) = xs.take k := by
  unfold cut
  rw [HT.sIx_none, HT.sIx_nat]
  simp only [List.drop_zero, Nat.sub_zero]
  by_cases h : k ≤ xs.length
  · rw [Nat.min_eq_left h]
  · rw [Nat.min_eq_right (by omega), List.take_length, List.take_of_length_le (by omega)]
theorem enumGo_at {ds : List PD} {n i : Nat} {x : PD} (h : (enumGo n ds)[i]? = some x) : ∃ d, ds[i]? = some d ∧ x = pairD (.int ((n + i : Nat) : Int)) d := by
  obtain ⟨hi, rfl⟩ := List.getElem?_eq_some_iff.mp h
  obtain ⟨h1, h2⟩ := enum_at hi
  exact ⟨ds[i], List.getElem?_eq_getElem h1, h2⟩
@[simp] theorem qEnum_eq {r : List O → Option (List O)} {ρ : List O} : qEnum r ρ = match r ρ with
    | some [.fz (.list ds)] => some (enumGo 0 ds)
    | _ => none := rfl
theorem lk_cons {α : Type} {k x : Key} {v : α} {kvs : List (Key × α)} : lk ((k, v) :: kvs) x = if k = x then some v else lk kvs x := by
  unfold lk
  rw [List.find?_cons]
  by_cases h : k = x <;> simp [h]
theorem putD_new {α : Type} {kvs : List (Key × α)} {k : Key} {v : α} (h : ∀ p ∈ kvs, p.1 ≠ k) : putD kvs k v = kvs ++ [(k, v)] := by
  unfold putD
  rw [if_neg]
  intro c
  obtain ⟨p, m, e⟩ := List.any_eq_true.mp c
  exact h p m (by simpa using e)
theorem oIx_dict {kvs : List (Key × PD)} {i : Int} (hn : kvs ≠ []) : oIx (.fz (.dict (kvs.map kp))) (.fz (.int i)) = (lk kvs (.inl i)).map .fz := by
  have e : dicK (.fz (.dict (kvs.map kp))) = some kvs := by
    cases kvs with
    | nil => exact (hn rfl).elim
    | cons p r => exact unkp_kp (p :: r)
  have e2 : oLook (.fz (.dict (kvs.map kp))) (.fz (.int i)) = some (lk kvs (.inl i)) := by
    unfold oLook
    rw [e]
    rfl
  show (match oLook (.fz (.dict (kvs.map kp))) (.fz (.int i)) with | some (some d) => some (O.fz d) | _ => none) = _
  rw [e2]
  cases lk kvs (.inl i) <;> rfl
theorem prD_shaped {q : Nat × Nat} : SeqAt.shaped (prD q) = true := by simp [prD, SeqAt.shaped, PyData.canLay0, PyData.canLayAll0, PyData.depth, PyData.depthAll]
theorem eqv_prD {q r : Nat × Nat} : PyData.eqv (prD q) (prD r) = decide (q = r) := by
  obtain ⟨a, b⟩ := q
  obtain ⟨c, d⟩ := r
  simp only [prD, PyData.eqv, PyData.eqvAll, beq_dec]
  rw [Bool.eq_iff_iff]
  simp
  omega
theorem oIn_prs {m : Nat} {q : Nat × Nat} {ps : List (Nat × Nat)} (h : okP m ps) (hm : m ≤ 1000000) : oIn (.fz (prD q)) (.fz (.list (ps.map prD))) = some (.fz (.bool (decide (q ∈ ps)))) := by
  have e1 : SeqAt.shaped (PyData.list (ps.map prD)) = true := (prs_fine h hm).shaped (by decide)
  have e2 := prD_shaped (q := q)
  have e3 : ((ps.map prD).any fun z => PyData.eqv z (prD q)) = decide (q ∈ ps) := by
    rw [List.any_map, Bool.eq_iff_iff, List.any_eq_true]
    constructor
    · rintro ⟨r, mr, e⟩
      simp [eqv_prD] at e
      rw [← e]
      simpa using mr
    · intro mr
      exact ⟨q, by simpa using mr, by simp [eqv_prD]⟩
  have e4 : bIn (.fz (prD q)) (.fz (.list (ps.map prD))) = some (decide (q ∈ ps)) := by
    rw [← e3]
    show (if (SeqAt.shaped (prD q) && SeqAt.shaped (PyData.list (ps.map prD))) = true then _ else _) = _
    rw [e1, e2]
    rfl
  unfold oIn
  rw [e4]
  rfl
theorem oSum_map {α : Type} {g : α → Int} {xs : List α} : oSum [.fz (.list (xs.map fun x => .int (g x)))] = some (.fz (.int (xs.map g).sum)) := by
  have e : intsD (xs.map fun x => PyData.int (g x)) = some (xs.map g) := by
    have := intsD_map (xs.map g)
    rwa [List.map_map] at this
  rw [oSum_l, e]
theorem sum_perm {α : Type} {g : α → Int} {xs ys : List α} (p : xs.Perm ys) : (xs.map g).sum = (ys.map g).sum := by
  induction p with
  | nil => rfl
  | cons x _ ih => simp [ih]
  | swap x y l => simp; omega
  | trans _ _ h1 h2 => rw [h1, h2]
/-- whether two things are in a pair -/
def inP (ps : List (Nat × Nat)) (t u : Nat) : Bool := decide ((min t u, max t u) ∈ ps)
def matesK (ps : List (Nat × Nat)) : List Nat → List Nat → List (Key × PD)
  | _, [] => []
  | pre, t :: r => (.inl (t : Int), .list ((pre.filter (inP ps t)).map natD)) :: matesK ps (pre ++ [t]) r
theorem matesK_snoc {ps : List (Nat × Nat)} {t : Nat} : ∀ {pre l : List Nat}, matesK ps pre (l ++ [t]) = matesK ps pre l ++ [(.inl (t : Int), .list (((pre ++ l).filter (inP ps t)).map natD))]
  | pre, [] => by simp [matesK]
  | pre, u :: l => by
    show _ :: matesK ps (pre ++ [u]) (l ++ [t]) = _
    rw [matesK_snoc]
    simp [matesK]
theorem matesK_keys {ps : List (Nat × Nat)} : ∀ {pre l : List Nat} {p : Key × PD}, p ∈ matesK ps pre l → ∃ t ∈ l, p.1 = .inl (t : Int)
  | pre, t :: r, p, m => by
    rcases List.mem_cons.mp (show p ∈ _ :: _ from m) with rfl | m
    · exact ⟨t, List.mem_cons_self, rfl⟩
    · obtain ⟨u, mu, e⟩ := matesK_keys m
      exact ⟨u, List.mem_cons_of_mem _ mu, e⟩
theorem matesK_lk {ps : List (Nat × Nat)} {t : Nat} : ∀ {pre l post : List Nat}, t ∉ l → lk (matesK ps pre (l ++ t :: post)) (.inl (t : Int)) = some (.list (((pre ++ l).filter (inP ps t)).map natD))
  | pre, [], post, _ => by
    show lk (((Sum.inl (t : Int) : Key), _) :: _) _ = _
    rw [lk_cons, if_pos rfl, List.append_nil]
  | pre, u :: l, post, h => by
    have hu : u ≠ t := fun e => h (by rw [e]; exact List.mem_cons_self)
    have e : ¬ ((Sum.inl (u : Int) : Key) = Sum.inl (t : Int)) := fun e => hu (by
      have := Sum.inl.inj e
      omega)
    show lk (((Sum.inl (u : Int) : Key), _) :: matesK ps (pre ++ [u]) (l ++ t :: post)) _ = _
    rw [lk_cons, if_neg e, matesK_lk (fun m => h (List.mem_cons_of_mem _ m))]
    simp
theorem nodup_at {od : List Nat} {i t : Nat} (hn : od.Nodup) (e : od[i]? = some t) : t ∉ od.take i ∧ od = od.take i ++ t :: od.drop (i + 1) := by
  obtain ⟨hi, rfl⟩ := List.getElem?_eq_some_iff.mp e
  have e2 : od = od.take i ++ od[i] :: od.drop (i + 1) := by rw [← List.drop_eq_getElem_cons hi, List.take_append_drop]
  refine ⟨fun m => ?_, e2⟩
  rw [e2] at hn
  have h3 := (List.nodup_append.mp hn).2.2
  exact h3 _ m _ List.mem_cons_self rfl
/-- a list whose items are set one by one, by what is ahead -/
def buildG (f : List Int → List Nat → Nat → Int) : List Nat → List Nat → List Int → List Int
  | _, [], l => l
  | pre, t :: r, l => buildG f (pre ++ [t]) r (l.set t (f l pre t))
theorem buildG_len {f : List Int → List Nat → Nat → Int} : ∀ {r pre : List Nat} {l : List Int}, (buildG f pre r l).length = l.length
  | [], _, _ => rfl
  | t :: r, pre, l => by
    show (buildG f (pre ++ [t]) r (l.set t (f l pre t))).length = _
    rw [buildG_len, List.length_set]
theorem getD_set {l : List Int} {t u : Nat} {v : Int} (h : t < l.length) : (l.set t v).getD u 0 = if t = u then v else l.getD u 0 := by
  rw [List.getD_eq_getElem?_getD, List.getD_eq_getElem?_getD, List.getElem?_set]
  by_cases e : t = u
  · subst e
    simp [h]
  · simp [e]
theorem buildG_le {f g : List Int → List Nat → Nat → Int} {n : Nat} (hfg : ∀ l l' pre t, t < n → (∀ u ∈ pre, u < n) → f l pre t ≤ g l' pre t) : ∀ {r pre : List Nat} {l l' : List Int}, l.length = n → l'.length = n → (∀ t ∈ r, t < n) → (∀ u ∈ pre, u < n) → (∀ u, l.getD u 0 ≤ l'.getD u 0) → ∀ u, (buildG f pre r l).getD u 0 ≤ (buildG g pre r l').getD u 0
  | [], _, _, _, _, _, _, _, h => h
  | t :: r, pre, l, l', h1, h2, hr, hp, h => by
    have ht := hr t List.mem_cons_self
    refine buildG_le hfg (r := r) (by rw [List.length_set]; exact h1) (by rw [List.length_set]; exact h2) (fun u m => hr u (List.mem_cons_of_mem _ m)) (fun u m => ?_) (fun u => ?_)
    · rcases List.mem_append.mp m with m | m
      · exact hp u m
      · rw [List.mem_singleton.mp m]; exact ht
    · rw [getD_set (by omega), getD_set (by omega)]
      by_cases e : t = u
      · rw [if_pos e, if_pos e]
        exact hfg l l' pre t ht hp
      · rw [if_neg e, if_neg e]
        exact h u
/-! the least place -/
def encP (x : Int × (Int × Int)) : PD := .tuple [.int x.1, thD x.2]
def sortP (xs : List (Int × (Int × Int))) : List (Int × (Int × Int)) := xs.mergeSort (dataLe false encP)
theorem sortP_perm (xs : List (Int × (Int × Int))) : (sortP xs).Perm xs := List.mergeSort_perm _ _
theorem sortD_encP (xs : List (Int × (Int × Int))) : sortD (xs.map encP) = (sortP xs).map encP := (PySem.W.sort_maps (r := dataLe false encP) (s := dataLe false id) encP fun _ _ _ _ => rfl).symm
theorem sortC_encP (xs : List (Int × (Int × Int))) : sortC (xs.map encP) = true := by
  unfold sortC
  simp only [Bool.and_eq_true, Bool.or_eq_true, List.all_eq_true, List.mem_map, forall_exists_index, and_imp, forall_apply_eq_imp_iff₂, decide_eq_true_eq]
  refine ⟨⟨fun x _ y _ => ?_, .inl fun x _ => rfl⟩, fun x _ => ⟨?_, ?_⟩⟩
  · simp [encP, thD, alike, PySem.W.alikeAll]
  · simp [encP, thD, PyData.depth, PyData.depthAll]
  · simp [encP, thD, PyData.canLay0, PyData.canLayAll0]
theorem intsD_encP {x : Int × (Int × Int)} {xs : List (Int × (Int × Int))} : intsD ((x :: xs).map encP) = none := rfl
theorem oSortU_encP (xs : List (Int × (Int × Int))) : oSortU [.fz (.list (xs.map encP))] = some (.lst ((sortP xs).map encP)) := by
  cases xs with
  | nil => simp [oSortU, seqL, sortI, sortP]
  | cons x xs =>
    show (match intsD ((x :: xs).map encP) with | some ns => some (O.lst ((sortI ns).map .int)) | none => if sortC ((x :: xs).map encP) then some (.lst (sortD ((x :: xs).map encP))) else none) = _
    rw [intsD_encP]
    simp only [sortC_encP, sortD_encP, if_true]
def leastGo (s b : Int) : Int → List (Int × (Int × Int)) → Int
  | f, [] => f
  | f, x :: r => leastGo s b (if lieO f s x.1 x.2.1 then up (x.1 + x.2.1) b else f) r
def leastG (th : Int × Int) (xs : List (Int × (Int × Int))) : Int := leastGo th.1 th.2 0 (sortP xs)
theorem up_mono {n m b : Int} (hb : 0 < b) (h : n ≤ m) : up n b ≤ up m b := by
  unfold up
  exact Int.mul_le_mul_of_nonneg_right (Int.ediv_le_ediv hb (by omega)) (by omega)
theorem up_add {n f b : Int} (hb : 0 < b) (h : f % b = 0) : up (f + n) b = f + up n b := by
  obtain ⟨u1, u2⟩ := up_is (e := n) hb
  exact (up_uniq hb (by omega) (by omega) (by rw [Int.add_emod, h, up_mod]; rfl)).symm
theorem leastGo_le {s b : Int} (hs : 1 ≤ s) (hb : 1 ≤ b) : ∀ {ys : List (Int × (Int × Int))} {f : Int}, (∀ y ∈ ys, 1 ≤ y.2.1) → f % b = 0 → leastGo s b f ys ≤ f + (ys.map fun y => up (y.2.1 + s - 1) b).sum
  | [], f, _, _ => by simp [leastGo]
  | y :: ys, f, h, hf => by
    have hy := h y List.mem_cons_self
    have ht : ∀ z ∈ ys, 1 ≤ z.2.1 := fun z m => h z (List.mem_cons_of_mem _ m)
    obtain ⟨u1, u2⟩ := up_is (e := y.2.1 + s - 1) (b := b) (by omega)
    rw [List.map_cons, List.sum_cons]
    show leastGo s b (if lieO f s y.1 y.2.1 then up (y.1 + y.2.1) b else f) ys ≤ _
    by_cases c : lieO f s y.1 y.2.1 = true
    · rw [if_pos c]
      have ih := leastGo_le hs hb (f := up (y.1 + y.2.1) b) ht up_mod
      simp only [lieO, Bool.and_eq_true, decide_eq_true_eq] at c
      have h1 := up_mono (b := b) (n := y.1 + y.2.1) (m := f + (y.2.1 + s - 1)) (by omega) (by omega)
      rw [up_add (by omega) hf] at h1
      omega
    · rw [if_neg c]
      have ih := leastGo_le hs hb (f := f) ht hf
      omega
theorem leastG_le {th : Int × Int} {xs : List (Int × (Int × Int))} (hs : 1 ≤ th.1) (hb : 1 ≤ th.2) (h : ∀ y ∈ xs, 1 ≤ y.2.1) : leastG th xs ≤ (xs.map fun y => up (y.2.1 + th.1 - 1) th.2).sum := by
  have p := sortP_perm xs
  have := leastGo_le (s := th.1) (b := th.2) hs hb (ys := sortP xs) (f := 0) (fun y m => h y (p.mem_iff.mp m)) (by simp)
  rw [sum_perm p] at this
  unfold leastG
  omega
end FM
namespace FM
open PySem PySem.Spec L2 PyProof.Rows
theorem zeros_flat (n : Nat) : (List.replicate n [PyData.int 0]).flatten = (List.replicate n (0 : Int)).map .int := by
  induction n with
  | zero => rfl
  | succ n ih => simp [List.replicate_succ, ih]
theorem natD_filter {p : Nat → Bool} {q : PD → Bool} (h : ∀ u, q (natD u) = p u) (l : List Nat) : (l.map natD).filter q = (l.filter p).map natD := by
  rw [List.filter_map]
  congr 1
  apply List.filter_congr
  intro u _
  exact h u
def natP (p : Nat → Bool) : PD → Bool
  | .int i => p i.toNat
  | _ => false
theorem natP_natD {p : Nat → Bool} (u : Nat) : natP p (natD u) = p u := by simp [natP, natD]
theorem take_succ_at {od : List Nat} {i t : Nat} (e : od[i]? = some t) : od.take (i + 1) = od.take i ++ [t] := by
  obtain ⟨hi, rfl⟩ := List.getElem?_eq_some_iff.mp e
  rw [List.take_add_one, List.getElem?_eq_getElem hi]
  rfl
theorem erase_perm : ∀ {xs : List Int} {i : Nat} {y : Int}, xs[i]? = some y → xs.Perm (y :: xs.eraseIdx i)
  | x :: xs, 0, y, e => by
    simp at e
    subst e
    exact .refl _
  | x :: xs, i + 1, y, e => by
    have ih := erase_perm (xs := xs) (i := i) (y := y) (by simpa using e)
    exact (List.Perm.cons x ih).trans (List.Perm.swap y x _)
  | [], _, _, e => by simp at e
theorem fSetI_n {ds : List Int} {t : Nat} {v : Int} (h : t < ds.length) : fSetI (ds.map .int) (.int (t : Int)) (.int v) = some ((ds.set t v).map .int) := by
  have e : ixN (ds.map PyData.int).length (t : Int) = some t := by
    unfold ixN
    rw [if_pos (by omega), if_pos (by simp; omega)]
    simp
  rw [fSetI_i, e, Option.map_some, List.map_set]
theorem mul_sum {α : Type} {g : α → Int} {b : Int} (xs : List α) : b * (xs.map g).sum = (xs.map fun x => g x * b).sum := by
  induction xs with
  | nil => simp
  | cons x xs ih => simp [Int.mul_add, ih, Int.mul_comm]
/-- a whole order, of things that are there -/
def okO (m : Nat) (od : List Nat) : Prop := od.Nodup ∧ ∀ t ∈ od, t < m
theorem nats_of {xs : List Int} {m : Nat} (h : xs.Perm (rngI m)) : ∃ od : List Nat, xs = od.map (fun t : Nat => (t : Int)) ∧ okO m od ∧ od.length = m := by
  have e : xs = (xs.map Int.toNat).map (fun t : Nat => (t : Int)) := by
    rw [List.map_map]
    have : ∀ x ∈ xs, ((fun t : Nat => (t : Int)) ∘ Int.toNat) x = x := fun x m => by
      have := rngI_mem (h.mem_iff.mp m)
      simp
      omega
    conv => lhs; rw [← List.map_id xs]
    apply List.map_congr_left
    intro x m
    exact (this x m).symm
  have p2 : (xs.map Int.toNat).Perm (List.range m) := by
    have := h.map Int.toNat
    unfold rngI at this
    rw [List.map_map] at this
    have e2 : (List.range m).map (Int.toNat ∘ fun i : Nat => (i : Int)) = List.range m := by
      conv => rhs; rw [← List.map_id (List.range m)]
      apply List.map_congr_left
      intro i _
      simp
    rwa [e2] at this
  refine ⟨xs.map Int.toNat, e, ⟨p2.nodup_iff.mpr List.nodup_range, fun t mt => List.mem_range.mp (p2.mem_iff.mp mt)⟩, ?_⟩
  rw [p2.length_eq, List.length_range]
theorem qLrg1_n {a : QE} {ρ : List O} {n : Nat} (hn : n ≤ 1000000) (h : a ρ = some (.fz (.int (n : Int)))) : qLrg1 a ρ = some (.lst ((rngI n).map .int)) := by
  have hb : big62 (n : Int) = true := big62_s (by omega) (by omega)
  have hd : decide ((n : Int).toNat ≤ 2 ^ 24) = true := decide_eq_true (by omega)
  unfold qLrg1
  rw [h]
  simp only [hb, hd, Bool.and_self, if_true]
  rw [Int.toNat_natCast, rngD_map]
end FM
namespace FM
open PySem PySem.Spec L2 PyProof.Rows
/-! ### comprehensions over a dict of one's own (locked meanwhile) -/
section
variable {H : Hp} {d : Addr} {ws : List (Key × V)} {od : Obj}
theorem rd_lock (hd : H d = some (.dK ws)) {a : Addr} {u : HO} (h : Rd H a u) : Rd (upd H d (.frz od (.dK ws))) a u := by
  by_cases e : a = d
  · subst e
    rcases h with h | ⟨o, h⟩
    · rw [hd] at h
      cases h
      exact .inr ⟨od, upd_same⟩
    · rw [hd] at h
      cases h
  · rcases h with h | ⟨o, h⟩
    · exact .inl (by rw [upd_ne e]; exact h)
    · exact .inr ⟨o, by rw [upd_ne e]; exact h⟩
mutual
theorem Own.lock {k : Kc} {F : Hp} (hd : H d = some (.dK ws)) : ∀ {v : V} {o : O} {S : List Addr}, Own k F H v o S → Own k F (upd H d (.frz od (.dK ws))) v o S
  | _, _, _, .fz h => .fz h
  | _, _, _, .lst h r => .lst (rd_lock hd h) r
  | _, _, _, .dic h r => .dic (rd_lock hd h) r
  | _, _, _, .dit h r => .dit (rd_lock hd h) r
  | _, _, _, .nst h r => .nst (rd_lock hd h) (Owns.lock hd r)
  | _, _, _, .ntp (a := a) h g r => .ntp (by rw [upd_ne (fun e => by rw [e, hd] at h; cases h)]; exact h) g (Owns.lock hd r)
  | _, _, _, .ndc h r => .ndc (rd_lock hd h) (OwnK.lock hd r)
  | _, _, _, .ins (a := a) h r => .ins (by rw [upd_ne (fun e => by rw [e, hd] at h; cases h)]; exact h) (OwnF.lock hd r)
  | _, _, _, .ktp h r => .ktp h r
  | _, _, _, .dead => .dead
theorem Owns.lock {k : Kc} {F : Hp} (hd : H d = some (.dK ws)) : ∀ {v : List V} {o : List O} {S : List Addr}, Owns k F H v o S → Owns k F (upd H d (.frz od (.dK ws))) v o S
  | _, _, _, .nil => .nil
  | _, _, _, .cons h r => .cons (Own.lock hd h) (Owns.lock hd r)
theorem OwnK.lock {k : Kc} {F : Hp} (hd : H d = some (.dK ws)) : ∀ {v : List (Key × V)} {o : List (Key × O)} {S : List Addr}, OwnK k F H v o S → OwnK k F (upd H d (.frz od (.dK ws))) v o S
  | _, _, _, .nil => .nil
  | _, _, _, .cons h r => .cons (Own.lock hd h) (OwnK.lock hd r)
theorem OwnF.lock {k : Kc} {F : Hp} (hd : H d = some (.dK ws)) : ∀ {v : List (Str × V)} {o : List (Str × O)} {S : List Addr}, OwnF k F H v o S → OwnF k F (upd H d (.frz od (.dK ws))) v o S
  | _, _, _, .nil => .nil
  | _, _, _, .cons h r => .cons (Own.lock hd h) (OwnF.lock hd r)
end
theorem Envs.lock {k : Kc} {F : Hp} (hd : H d = some (.dK ws)) : ∀ {σ : L2.St} {ρ : List O} {S : List Addr}, Envs k F H σ ρ S → Envs k F (upd H d (.frz od (.dK ws))) σ ρ S
  | _, _, _, .nil => .nil
  | _, _, _, .dead r => .dead (Envs.lock hd r)
  | _, _, _, .cons w r => .cons (w.lock hd) (Envs.lock hd r)
end
def keysD (ds : List (Key × PD)) : List PD := ds.map fun p => keyD p.1
def qKeysD (i : Nat) : QI := fun ρ => match qVar i ρ with
  | some (.dic ds) => some (keysD ds)
  | _ => none
theorem RepK.key {K : Frag} {F : Hp} {k : Key} {v : V} : ∀ {vs : List (Key × V)} {ds : List (Key × PD)} {i : Nat}, RepK K F vs ds → vs[i]? = some (k, v) → (keysD ds)[i]? = some (keyD k)
  | (_, _) :: _, (_, _) :: _, 0, .cons h r, e => by
    simp at e
    obtain ⟨rfl, rfl⟩ := e
    rfl
  | _, _, i + 1, .cons h r, e => by
    have := RepK.key (i := i) r (by simpa using e)
    simpa [keysD] using this
theorem rep_key {K : Frag} {F : Hp} : ∀ k : Key, Rep K F (kV k) (keyD k)
  | .inl i => .int i
  | .inr x => .str x
section
variable {k : Kc} {E : XK} {i : Nat}
def wiL (i : Nat) : TI := fun σ H R => (∃ (d : Addr) (o : Obj) (ws : List (Key × V)), σ[i]? = some (some (.ref d)) ∧ H d = some (.frz o (.dK ws))) → iKeys (tVar i) σ H R
theorem tiv_keysL : TIv k (wiL i) (qKeysD i) := by
  rintro F H σ ρ S xs R q e g ⟨d, o, ws, a1, a2⟩
  unfold qKeysD at e
  split at e
  · rename_i ds e0
    cases e
    obtain ⟨g1, g2⟩ := qVar_some e0
    obtain ⟨v, T, U, b1, b2, b3, b4⟩ := q.env.take g1 g2
    rw [a1] at b1
    cases b1
    cases b2 with
    | @dic a ws' _ h r =>
      have ew : ws' = ws := by
        rcases h with h | ⟨o', h⟩
        · rw [a2] at h
          cases h
        · rw [a2] at h
          cases h
          rfl
      subst ew
      have hl : (keysD ds).length = ws'.length := by rw [r.len', keysD, List.length_map]
      refine ⟨_, a1, d, o, rfl, .inl ⟨ws', a2, g _ F H (Xt.refl q.fle) ⟨fun j F2 H2 hj p f => ?_, fun F2 H2 p f => ?_, fun j F2 H2 x H3 hj p f y => ?_⟩⟩⟩
      · exact walk_keys.goes j H2 (by omega) (p.ex d _ a2)
      · rw [hl]
        exact walk_keys.stops H2 (p.ex d _ a2)
      · obtain ⟨rfl, kk, vv, e1, rfl⟩ := walk_keys.yields j H2 x H3 (by omega) (p.ex d _ a2) y
        have e2 := r.key e1
        rw [List.getElem?_eq_getElem hj] at e2
        rw [Option.some.inj e2]
        exact ⟨F2, Xt.refl f, rep_key kk⟩
  · cases e
theorem tem_lck {g : TG} {tt : TT} {te : TE} {vs : List Nat} {f : QG} {c : List O → Option Bool} {qe : QE} {J : List Nat} (hg : TGq k g f J) (hJ : ∀ j ∈ J, j ∈ vs) (ht : TTv k tt c) (he : TEv k te qe) :
    TEm k E (tLockE (tLc (iKeys (tVar i)) g tt te vs)) (mNew (qLc (qKeysD i) f c qe vs)) := by
  intro P e σ ρ us os H Q s r
  obtain ⟨F, S1, S2, s⟩ := s
  unfold mNew at r
  cases e1 : qLc (qKeysD i) f c qe vs ρ with
  | none => rw [e1] at r; exact r.elim
  | some o =>
    rw [e1] at r
    have e0 : ∃ ds, qVar i ρ = some (.dic ds) := by
      unfold qLc qKeysD at e1
      cases z : qVar i ρ with
      | none => rw [z] at e1; cases e1
      | some w =>
        cases w with
        | dic ds => exact ⟨ds, rfl⟩
        | _ => rw [z] at e1; cases e1
    obtain ⟨ds, e0⟩ := e0
    obtain ⟨g1, g2⟩ := qVar_some e0
    obtain ⟨v, T, U, b1, b2, b3, b4⟩ := s.env.take g1 g2
    cases b2 with
    | @dic d ws _ h rr =>
      have md : d ∈ S1 := b4.mem_iff.mp (by simp)
      have md2 : d ∈ S1 ++ S2 := List.mem_append_left _ md
      have hd : H d = some (.dK ws) := by
        rcases h with h | ⟨o', h⟩
        · exact h
        · exact (s.fr.nofz d md2 o' _ h).elim
      have hF : F d = none := s.fr.off d md2
      refine ⟨d, .dK ws, hd, trivial, fun od => ?_⟩
      have qs : Qs k F (upd H d (.frz od (.dK ws))) σ ρ S1 := by
        refine ⟨fun a u z => ?_, s.env.lock hd, s.qs.off⟩
        have ne : a ≠ d := fun w => by rw [w, hF] at z; cases z
        rw [upd_ne ne]
        exact s.fr.fle a u z
      have back : ∀ {a : Addr}, (upd H d (.frz od (.dK ws))) a = none → a ≠ d ∧ H a = none := fun {a} z => by
        have ne : a ≠ d := fun w => by rw [w, upd_same] at z; cases z
        rw [upd_ne ne] at z
        exact ⟨ne, z⟩
      have t := ten_lc (wi := wiL i) tiv_keysL hg hJ ht he F (upd H d (.frz od (.dK ws))) σ ρ S1 o (fun v H2 => H2 d = some (.frz od (.dK ws)) ∧ Q v (upd H2 d (.dK ws))) qs e1 fun v F2 H2 T2 x w fr => by
        refine ⟨x.ex d _ upd_same, ?_⟩
        have neT : ∀ a ∈ T2, a ≠ d := fun a m => (back (fr.new a m)).1
        have x2 : Xt F H F2 (upd H2 d (.dK ws)) := by
          refine ⟨fun a u z => ?_, x.sub, fun a u z => ?_, fun a u z => ?_⟩
          · by_cases ne : a = d
            · subst ne
              rw [hd] at z
              rw [upd_same]
              exact z
            · rw [upd_ne ne]
              exact x.ex a u (by rw [upd_ne ne]; exact z)
          · have ne : a ≠ d := fun w => by
              subst w
              rcases x.fresh a u z with z2 | z2 | ⟨g, z2⟩
              · rw [hF] at z2; cases z2
              · rw [upd_same] at z2; cases z2
              · rw [upd_same] at z2
                cases z2
                obtain ⟨_, g⟩ := g
                cases g
            rw [upd_ne ne]
            exact x.fle a u z
          · rcases x.fresh a u z with z2 | z2 | ⟨g, z2⟩
            · exact .inl z2
            · exact .inr (.inl (back z2).2)
            · have ne : a ≠ d := fun w => by
                subst w
                rw [upd_same] at z2
                cases z2
                obtain ⟨_, g⟩ := g
                cases g
              rw [upd_ne ne] at z2
              exact .inr (.inr ⟨g, z2⟩)
        have w2 : Own k F2 (upd H2 d (.dK ws)) v o T2 := Own.mono (Same.refl F2) (fun a m u z => by rw [upd_ne (neT a m)]; exact z) w
        have f2 : Fresh F2 H (upd H2 d (.dK ws)) T2 := ⟨fr.nd, fun a m => (back (fr.new a m)).2, fr.off, fun a m o' u' z => by
          rw [upd_ne (neT a m)] at z
          exact fr.nofz a m o' u' z⟩
        exact r v _ ⟨F2, S1, T2 ++ S2, s.push x2 w2 f2⟩
      exact t ⟨d, od, ws, b1, upd_same⟩
@[simp] theorem qKeysD_eq {ρ : List O} : qKeysD i ρ = match qVar i ρ with
    | some (.dic ds) => some (keysD ds)
    | _ => none := rfl
end
theorem pe_lcK {X : Cx} {elt tg iter : Expr} {ifs : List Expr} {scope : Scope} {own : List (Str × Nat)} {pos : Pos} {wi : TI} {g : TG} {tt : TT} {te : TE} (hc : X.calm = true) (hN : X.N.Nodup) (hi : PI X tg iter wi) (ok : BlkOk X.N X.env.scope scope own)
    (hg : ∀ (s : Shared) (H : Hp) (C : Addr) (cl : List (Str × Addr)) (fp : List Addr), PG (X.blk s H scope (compEnvC scope cl C X.env) fp) tg g)
    (ht : ∀ (s : Shared) (H : Hp) (C : Addr) (cl : List (Str × Addr)) (fp : List Addr), PTs (X.blk s H scope (compEnvC scope cl C X.env) fp) ifs tt)
    (he : ∀ (s : Shared) (H : Hp) (C : Addr) (cl : List (Str × Addr)) (fp : List Addr), PE (X.blk s H scope (compEnvC scope cl C X.env) fp) elt te) (hs : ∀ x, foldedSetIterable iter X.env x = pure x := by intro _; rfl) :
    PE X (.ListComp elt [⟨tg, iter, ifs, 0⟩] scope pos) (tLockE (tLc wi g tt te (own.map (·.2)))) := pe_lock (pe_lc hc hN hi ok hg ht he hs)
theorem ps_setLcK {X : Cx} {i : Nat} {y : Str} {py : Pos} {elt tg iter : Expr} {ifs : List Expr} {scope : Scope} {own : List (Str × Nat)} {pos spos : Pos} {wi : TI} {g : TG} {tt : TT} {te : TE} (hc : X.calm = true) (hN : X.N.Nodup) (hy : X.N[i]? = some y) (hyl : X.env.scope.names.lookup y = some .local)
    (hsw : swapsWith (.ListComp elt [⟨tg, iter, ifs, 0⟩] scope pos) (some (.Name y py)) spos.line X.env = pure true) (hi : PI X tg iter wi) (ok : BlkOk X.N X.env.scope scope own)
    (hg : ∀ (s : Shared) (H : Hp) (C : Addr) (cl : List (Str × Addr)) (fp : List Addr), PG (X.blk s H scope (compEnvC scope cl C X.env) fp) tg g)
    (ht : ∀ (s : Shared) (H : Hp) (C : Addr) (cl : List (Str × Addr)) (fp : List Addr), PTs (X.blk s H scope (compEnvC scope cl C X.env) fp) ifs tt)
    (he : ∀ (s : Shared) (H : Hp) (C : Addr) (cl : List (Str × Addr)) (fp : List Addr), PE (X.blk s H scope (compEnvC scope cl C X.env) fp) elt te) (hs : ∀ x, foldedSetIterable iter X.env x = pure x := by intro _; rfl) :
    PS X (.Assign [.Name y py] (.ListComp elt [⟨tg, iter, ifs, 0⟩] scope pos) spos) (tAsg (tLockE (tLc wi g tt te (own.map (·.2)))) (gName i)) :=
  ⟨fun pins s σ H D I h => (ps_lock (ps_setLc hc hN hy hyl hsw hi ok hg ht he hs)).run pins s σ H D I h⟩
end FM
namespace FM
open PySem PySem.Spec L2 PyProof.Rows
open PySem.W (dataLe alike dataLt)
/-! ### the least place is the least free one -/
/-- free of all of them -/
def freeG (s p : Int) (xs : List (Int × (Int × Int))) : Prop := ∀ x ∈ xs, lieO p s x.1 x.2.1 = false
theorem lieO_false {p s q t : Int} : lieO p s q t = false ↔ (q + t ≤ p ∨ p + s ≤ q) := by
  unfold lieO
  rw [Bool.and_eq_false_iff, decide_eq_false_iff_not, decide_eq_false_iff_not]
  omega
theorem lieO_true {p s q t : Int} : lieO p s q t = true ↔ (p < q + t ∧ q < p + s) := by
  unfold lieO
  rw [Bool.and_eq_true, decide_eq_true_eq, decide_eq_true_eq]
/-- what the going on by order of places comes to -/
theorem leastGo_is {s b : Int} (hs : 1 ≤ s) (hb : 1 ≤ b) : ∀ {ys done : List (Int × (Int × Int))} {f : Int}, (∀ y ∈ ys, 1 ≤ y.2.1) → (ys.Pairwise fun x y => x.1 ≤ y.1) → (∀ x ∈ done, ∀ y ∈ ys, x.1 ≤ y.1) → f % b = 0 → 0 ≤ f → freeG s f done → (∀ q, 0 ≤ q → q % b = 0 → q < f → ¬ freeG s q done) → (f = 0 ∨ ∃ x ∈ done, f = up (x.1 + x.2.1) b) →
    leastGo s b f ys % b = 0 ∧ 0 ≤ leastGo s b f ys ∧ freeG s (leastGo s b f ys) (done ++ ys) ∧ (∀ q, 0 ≤ q → q % b = 0 → q < leastGo s b f ys → ¬ freeG s q (done ++ ys)) ∧ (leastGo s b f ys = 0 ∨ ∃ x ∈ done ++ ys, leastGo s b f ys = up (x.1 + x.2.1) b)
  | [], done, f, _, _, _, h1, h2, h3, h4, h5 => by
    rw [List.append_nil]
    exact ⟨h1, h2, h3, h4, h5⟩
  | y :: ys, done, f, hp, hw, hd, h1, h2, h3, h4, h5 => by
    obtain ⟨w1, w2⟩ := List.pairwise_cons.mp hw
    have e : done ++ y :: ys = (done ++ [y]) ++ ys := by simp
    have hd2 : ∀ x ∈ done ++ [y], ∀ z ∈ ys, x.1 ≤ z.1 := fun x mx z mz => by
      rcases List.mem_append.mp mx with mx | mx
      · exact hd x mx z (List.mem_cons_of_mem _ mz)
      · rw [List.mem_singleton.mp mx]
        exact w1 z mz
    have hp2 : ∀ z ∈ ys, 1 ≤ z.2.1 := fun z m => hp z (List.mem_cons_of_mem _ m)
    have hy := hp y List.mem_cons_self
    obtain ⟨u1, u2⟩ := up_is (e := y.1 + y.2.1) (b := b) (by omega)
    have sub : ∀ q, freeG s q (done ++ [y]) → freeG s q done := fun q h x m => h x (List.mem_append_left _ m)
    rw [e]
    show leastGo s b (if lieO f s y.1 y.2.1 then up (y.1 + y.2.1) b else f) ys % b = 0 ∧ _
    by_cases c : lieO f s y.1 y.2.1 = true
    · obtain ⟨c1, c2⟩ := lieO_true.mp c
      have eq : leastGo s b f (y :: ys) = leastGo s b (up (y.1 + y.2.1) b) ys := by simp [leastGo, c]
      rw [if_pos c, eq]
      refine leastGo_is hs hb hp2 w2 hd2 up_mod (by omega) (fun x mx => ?_) (fun q q1 q2 q3 q4 => ?_) (.inr ⟨y, by simp, rfl⟩)
      · rcases List.mem_append.mp mx with mx | mx
        · have g := lieO_false.mp (h3 x mx)
          have g2 := hd x mx y List.mem_cons_self
          exact lieO_false.mpr (by omega)
        · rw [List.mem_singleton.mp mx]
          exact lieO_false.mpr (.inl u1)
      · rcases Int.lt_or_le q f with z | z
        · exact h4 q q1 q2 z (sub q q4)
        · have g := lieO_false.mp (q4 y (by simp))
          rcases g with g | g
          · have := up_uniq (n := y.1 + y.2.1) (b := b) (p := q) (by omega) g (by omega) q2
            omega
          · omega
    · have c' : lieO f s y.1 y.2.1 = false := by simpa using c
      have eq : leastGo s b f (y :: ys) = leastGo s b f ys := by simp [leastGo, c']
      rw [if_neg c, eq]
      refine leastGo_is hs hb hp2 w2 hd2 h1 h2 (fun x mx => ?_) (fun q q1 q2 q3 q4 => h4 q q1 q2 q3 (sub q q4)) ?_
      · rcases List.mem_append.mp mx with mx | mx
        · exact h3 x mx
        · rw [List.mem_singleton.mp mx]
          exact c'
      · rcases h5 with h5 | ⟨x, mx, h5⟩
        · exact .inl h5
        · exact .inr ⟨x, List.mem_append_left _ mx, h5⟩
theorem le_encP {x y : Int × (Int × Int)} (h : dataLe false encP x y = true) : x.1 ≤ y.1 := by
  rcases Int.lt_or_le y.1 x.1 with z | z
  · have e : dataLt (encP y) (encP x) = true := by
      unfold encP
      rw [PySem.W.dataLt_pair (by simp [alike]) (by simp [thD, alike, PySem.W.alikeAll])]
      have n : PyData.eqv (.int y.1) (.int x.1) = false := by simp [PyData.eqv]; omega
      rw [n]
      simp only [Bool.false_eq_true, if_false]
      rw [PySem.W.dataLt_int]
      exact decide_eq_true z
    rw [PySem.W.dataLe_eq] at h
    simp [e] at h
  · exact z
theorem sortP_sorted (xs : List (Int × (Int × Int))) : (sortP xs).Pairwise fun x y => x.1 ≤ y.1 := by
  have := PySem.W.sort_pairwise (le := dataLe false encP) (PySem.W.sortLe_total (PyProof.Rows.listOrd PyProof.Rows.itemOrd) false fun b => PySem.W.keyToks (encP b)) xs
  exact this.imp fun h => le_encP h
theorem leastG_is {th : Int × Int} {xs : List (Int × (Int × Int))} (hs : 1 ≤ th.1) (hb : 1 ≤ th.2) (h : ∀ y ∈ xs, 1 ≤ y.2.1) :
    leastG th xs % th.2 = 0 ∧ 0 ≤ leastG th xs ∧ freeG th.1 (leastG th xs) xs ∧ (∀ q, 0 ≤ q → q % th.2 = 0 → q < leastG th xs → ¬ freeG th.1 q xs) ∧ (leastG th xs = 0 ∨ ∃ x ∈ xs, leastG th xs = up (x.1 + x.2.1) th.2) := by
  have p := sortP_perm xs
  have fr : ∀ {q : Int}, freeG th.1 q (sortP xs) ↔ freeG th.1 q xs := fun {q} => ⟨fun f x m => f x (p.mem_iff.mpr m), fun f x m => f x (p.mem_iff.mp m)⟩
  obtain ⟨r1, r2, r3, r4, r5⟩ := leastGo_is (s := th.1) (b := th.2) hs hb (ys := sortP xs) (done := []) (f := 0) (fun y m => h y (p.mem_iff.mp m)) (sortP_sorted xs) (fun x m => by cases m) (by simp) (Int.le_refl _) (fun x m => by cases m) (fun q q1 _ q3 => by omega) (.inl rfl)
  rw [List.nil_append] at r3 r4 r5
  refine ⟨r1, r2, fr.mp r3, fun q q1 q2 q3 q4 => r4 q q1 q2 q3 (fr.mpr q4), ?_⟩
  rcases r5 with r5 | ⟨x, mx, r5⟩
  · exact .inl r5
  · exact .inr ⟨x, p.mem_iff.mp mx, r5⟩
/-- of numbers that rise, the first one that is so -/
theorem find_least {P : Int → Bool} {v : Int} : ∀ {cs : List Int}, cs.Pairwise (· ≤ ·) → v ∈ cs → P v = true → (∀ c ∈ cs, P c = true → v ≤ c) → cs.find? P = some v
  | c :: cs, hw, m, hv, hm => by
    obtain ⟨w1, w2⟩ := List.pairwise_cons.mp hw
    rw [List.find?_cons]
    cases e : P c with
    | true =>
      have g := hm c List.mem_cons_self e
      rcases List.mem_cons.mp m with z | z
      · simp [z]
      · have := w1 v z
        have : c = v := by omega
        simp [this]
    | false =>
      simp only
      rcases List.mem_cons.mp m with z | z
      · rw [z, e] at hv
        cases hv
      · exact find_least w2 z hv fun d md hd => hm d (List.mem_cons_of_mem _ md) hd
  | [], _, m, _, _ => by cases m
end FM
namespace FM
open PySem PySem.Spec L2 PyProof.Rows
theorem nats_of2 {xs : List Int} {m : Nat} (h : xs.Perm (rngI m)) : ∃ od : List Nat, xs = od.map (fun t : Nat => (t : Int)) ∧ okO m od ∧ od.length = m ∧ ∀ t, t < m → t ∈ od := by
  obtain ⟨od, e, h1, h2⟩ := nats_of h
  refine ⟨od, e, h1, h2, fun t ht => ?_⟩
  subst e
  have : (t : Int) ∈ rngI m := by
    unfold rngI
    exact List.mem_map.mpr ⟨t, List.mem_range.mpr ht, rfl⟩
  have := h.mem_iff.mpr this
  obtain ⟨u, mu, e⟩ := List.mem_map.mp this
  have : u = t := by omega
  rw [← this]
  exact mu
theorem buildG_fix {f : List Int → List Nat → Nat → Int} (hf : ∀ l l' pre t, (∀ u ∈ pre, l.getD u 0 = l'.getD u 0) → f l pre t = f l' pre t) : ∀ {r pre : List Nat} {l : List Int}, (pre ++ r).Nodup → (∀ t ∈ r, t < l.length) →
    (∀ u ∈ pre, (buildG f pre r l).getD u 0 = l.getD u 0) ∧ ∀ j t, r[j]? = some t → (buildG f pre r l).getD t 0 = f (buildG f pre r l) (pre ++ r.take j) t
  | [], _, _, _, _ => ⟨fun _ _ => rfl, fun j t e => by simp at e⟩
  | t :: r, pre, l, hn, hl => by
    have ht := hl t List.mem_cons_self
    have hn2 : ((pre ++ [t]) ++ r).Nodup := by rw [List.append_assoc]; exact hn
    have nt : t ∉ pre := fun m => (List.nodup_append.mp hn).2.2 t m t List.mem_cons_self rfl
    obtain ⟨i1, i2⟩ := buildG_fix hf (r := r) (pre := pre ++ [t]) (l := l.set t (f l pre t)) hn2 fun u m => by rw [List.length_set]; exact hl u (List.mem_cons_of_mem _ m)
    have e0 : buildG f pre (t :: r) l = buildG f (pre ++ [t]) r (l.set t (f l pre t)) := rfl
    have k1 : ∀ u ∈ pre, (buildG f pre (t :: r) l).getD u 0 = l.getD u 0 := fun u m => by
      rw [e0, i1 u (List.mem_append_left _ m), getD_set ht, if_neg (fun e => nt (by rw [e]; exact m))]
    refine ⟨k1, fun j v e => ?_⟩
    cases j with
    | zero =>
      simp at e
      subst e
      rw [List.take_zero, List.append_nil]
      have h1 := i1 t (by simp)
      rw [getD_set ht, if_pos rfl] at h1
      rw [e0, h1]
      exact hf _ _ _ _ fun u m => by rw [← e0, k1 u m]
    | succ j =>
      have := i2 j v (by simpa using e)
      rw [e0, this]
      simp
theorem oIx_dic {kvs : List (Key × PD)} {i : Int} : oIx (.dic kvs) (.fz (.int i)) = (lk kvs (.inl i)).map .fz := by
  have e2 : oLook (.dic kvs) (.fz (.int i)) = some (lk kvs (.inl i)) := rfl
  show (match oLook (.dic kvs) (.fz (.int i)) with | some (some d) => some (O.fz d) | _ => none) = _
  rw [e2]
  cases lk kvs (.inl i) <;> rfl
def kvI (l : List Int) (od : List Nat) : List (Key × PD) := od.map fun t : Nat => ((Sum.inl (t : Int) : Key), PyData.int (l.getD t 0))
theorem kvI_lk {l : List Int} {t : Nat} : ∀ {od : List Nat}, t ∈ od → lk (kvI l od) (.inl (t : Int)) = some (.int (l.getD t 0))
  | u :: od, m => by
    show lk (((Sum.inl (u : Int) : Key), PyData.int (l.getD u 0)) :: kvI l od) _ = _
    rw [lk_cons]
    by_cases e : u = t
    · rw [if_pos (by rw [e]), e]
    · rw [if_neg (fun z => e (by have := Sum.inl.inj z; omega))]
      rcases List.mem_cons.mp m with z | z
      · exact (e z.symm).elim
      · exact kvI_lk z
theorem kvI_put {l : List Int} {t : Nat} {v : Int} {od : List Nat} (h : t ∉ od) (ht : t < l.length) : putD (kvI l od) (.inl (t : Int)) (.int v) = kvI (l.set t v) (od ++ [t]) := by
  rw [putD_new fun p m e => by
    obtain ⟨u, mu, rfl⟩ := List.mem_map.mp m
    have := Sum.inl.inj e
    exact h (by have : u = t := by omega
                rw [← this]; exact mu)]
  unfold kvI
  rw [List.map_append]
  congr 1
  · apply List.map_congr_left
    intro u mu
    rw [getD_set ht, if_neg (fun e => h (by rw [e]; exact mu))]
  · rw [List.map_cons, List.map_nil, getD_set ht, if_pos rfl]
theorem kvI_keys {l : List Int} {od : List Nat} : keysD (kvI l od) = od.map natD := by
  unfold keysD kvI
  rw [List.map_map]
  rfl
theorem getD_all {l : List Int} {n : Nat} (h : l.length = n) : (List.range n).map (fun t => l.getD t 0) = l := by
  subst h
  apply List.ext_getElem
  · simp
  · intro i h1 h2
    simp [h2]
def freeB (s : Int) (xs : List (Int × (Int × Int))) (p : Int) : Bool := xs.all fun x => decide (x.1 + x.2.1 ≤ p) || decide (p + s ≤ x.1)
theorem freeB_iff {s p : Int} {xs : List (Int × (Int × Int))} : freeB s xs p = true ↔ freeG s p xs := by
  unfold freeB freeG
  rw [List.all_eq_true]
  constructor
  · intro h x m
    have := h x m
    simp at this
    exact lieO_false.mpr this
  · intro h x m
    have := lieO_false.mp (h x m)
    simpa using this
theorem rgC_up {j c : Int} (h0 : 0 ≤ j) (h1 : j ≤ 200) (c1 : 1 ≤ c) (c2 : c ≤ 64) : rgC 0 j c = true ∧ ∀ y ∈ rngC 0 c (Builtin.Range.rangeSize 0 j c).toNat, ∃ q : Int, y = .int q ∧ 0 ≤ q ∧ q < j ∧ q % c = 0 := by
  have hd0 : 0 ≤ (j - 0 - 1) / c ∨ j ≤ 0 := by
    rcases Int.lt_or_le 0 j with z | z
    · exact .inl (Int.ediv_nonneg (by omega) (by omega))
    · exact .inr z
  have hd1 : 0 < j → (j - 0 - 1) / c ≤ j - 0 - 1 := fun z => Int.ediv_le_self _ (by omega)
  refine ⟨?_, fun y m => ?_⟩
  · unfold rgC
    simp only [Bool.and_eq_true, decide_eq_true_eq]
    refine ⟨⟨by omega, by omega⟩, ?_⟩
    unfold Builtin.Range.small Builtin.Range.rangeSize
    simp only [Builtin.Range.rangeFitsLong, Bool.and_eq_true, Bool.or_eq_true, decide_eq_true_eq, beq_iff_eq, show c > 0 by omega, if_true]
    split <;> omega
  · unfold rngC at m
    obtain ⟨i, mi, rfl⟩ := List.mem_map.mp m
    have hi := List.mem_range.mp mi
    refine ⟨_, rfl, ?_, ?_, ?_⟩
    · have := Int.mul_nonneg (Int.natCast_nonneg i) (by omega : 0 ≤ c)
      omega
    · unfold Builtin.Range.rangeSize at hi
      rw [if_pos (by omega)] at hi
      split at hi
      · have h3 : (i : Int) ≤ (j - 0 - 1) / c := by omega
        have h4 := Int.mul_le_mul_of_nonneg_right h3 (by omega : 0 ≤ c)
        have h5 := Int.ediv_mul_le (j - 0 - 1) (by omega : c ≠ 0)
        omega
      · omega
    · simp
end FM
namespace FM
open PySem PySem.Spec L2 PyProof.Rows
/-! ### max(.., default=..), and a list taken apart -/
def rMaxD (K : Frag) : List V → List V → Hp → VK → Prop := fun vs zs H Q => ∃ (a : Addr) (ns : List Int) (d : V), vs = [V.ref a] ∧ zs = [d] ∧ SqL K H a (ns.map V.int) ∧ (ns = [] → Q d H) ∧ ∀ n r, ns = n :: r → Q (.int (r.foldl max n)) H
theorem reads_ints {h : Heap} : ∀ {ns : List Int} {us : List Value}, Vals (ns.map V.int) us → ∃ as, ReadsAll h us (ns.map .int) as
  | [], _, r => by
    cases r
    exact ⟨[], .nil⟩
  | n :: ns, _, r => by
    cases r with
    | cons e t =>
      obtain ⟨tk, rfl⟩ := e
      obtain ⟨as, q⟩ := reads_ints (h := h) t
      exact ⟨_, .cons (.int n tk) q⟩
theorem alike_intsA (ns : List Int) : PySem.W.AlikeAll (ns.map .int) := by
  refine ⟨fun x m y m2 => ?_, fun x m => ?_⟩
  · obtain ⟨i, _, rfl⟩ := List.mem_map.mp m
    obtain ⟨j, _, rfl⟩ := List.mem_map.mp m2
    simp [PySem.W.alike]
  · obtain ⟨i, _, rfl⟩ := List.mem_map.mp m
    simp
theorem cr_maxD {X : Cx} (hc : X.calm = true) (hu : X.A.units + 1 < cLine) : CallRK X (.builtin "max") [Str.ofString "default"] (rMaxD X.K) := by
  intro pins s σ H xs zs us ws Q I r1 r2 h
  obtain ⟨a, ns, d, rfl, rfl, hs, q0, q1⟩ := h
  obtain ⟨its, rv, hl, _⟩ := I.list hs
  rw [Vals.ref1 r1]
  cases r2 with
  | cons rd t =>
    cases t
    obtain ⟨as, ra⟩ := reads_ints (h := s.heap) rv
    refine PySem.W.max_list_default (xs := ns.map .int) (I.ok.hd hc) hl.isList (by simpa using ra) (alike_intsA ns) (by rw [depth_ints]; omega) (fun e h' tk hk => ?_) fun y ys i v h' tk bs e hv rd2 hk => ?_
    · exact ⟨d, H, I.kept hk, rd, q0 (by simpa using e)⟩
    · cases ns with
      | nil => cases e
      | cons n r =>
        rw [List.map_cons] at e
        injection e with e1 e2
        subst e1 e2
        rw [PySem.W.maxD_ints] at rd2
        cases rd2
        exact ⟨.int _, H, I.kept hk, ⟨_, rfl⟩, q1 n r rfl⟩
def oMaxD : List O → List O → Option O
  | [x], [.fz (.int d)] => match seqL x with
    | some ds => match intsD ds with
      | some [] => some (.fz (.int d))
      | some (n :: r) => some (.fz (.int (r.foldl max n)))
      | none => none
    | none => none
  | _, _ => none
section
variable {k : Kc} {E : XK}
def qCbK (f : List O → List O → Option O) (r z : List O → Option (List O)) : QE := fun ρ => match r ρ with
  | none => none
  | some os => match z ρ with
    | none => none
    | some ps => f os ps
theorem tev_maxD {t tk : TA} {qs qz : List O → Option (List O)} (ha : TAv k t qs) (hb : TAv k tk qz) : TEv k (tCKw (rMaxD k.K) t tk) (qCbK oMaxD qs qz) := by
  intro F H σ ρ S o Q q e h
  unfold qCbK at e
  split at e
  · cases e
  · rename_i os e1
    split at e
    · cases e
    · rename_i ps e2
      refine ha F H σ ρ S os _ q e1 fun vs F1 H1 x1 w1 => hb F1 H1 σ ρ S ps _ (q.xt x1) e2 fun zs F2 H2 x2 w2 => ?_
      have w3 := w1.xt x2
      unfold oMaxD at e
      split at e
      · rename_i x d
        cases w3 with
        | cons w ww =>
          cases ww
          cases w2 with
          | cons z zz =>
            cases zz
            have ez := z.int
            subst ez
            split at e
            · rename_i ds es
              obtain ⟨a, us, rfl, g1, g2⟩ := w.seqL x2.fle es
              split at e
              · rename_i en
                cases e
                have e3 := intsD_eq en
                subst e3
                rw [reps_ints g2] at g1
                exact ⟨a, [], _, rfl, rfl, g1, fun _ => h _ F2 H2 (x1.trans x2) (.fz (.int _)), fun n r e => by cases e⟩
              · rename_i n r en
                cases e
                have e3 := intsD_eq en
                subst e3
                rw [reps_ints g2] at g1
                exact ⟨a, n :: r, _, rfl, rfl, g1, (fun e => by cases e), fun n' r' e => by cases e; exact h _ F2 H2 (x1.trans x2) (.fz (.int _))⟩
              · cases e
            · cases e
      · cases e
def fLst (n : Nat) (f : List PD → List O → Option (List O)) : QG := fun d ρ => match d with
  | .list ds => if ds.length = n then f ds ρ else none
  | _ => none
theorem tgq_lst {gs : TGs} {fs : List PD → List O → Option (List O)} {J : List Nat} {n : Nat} (h1 : TGsq k gs fs J) : TGq k (gLst k.K n gs) (fLst n fs) J := by
  intro F H σ ρ ρ' S v d Q q r e h
  unfold fLst at e
  split at e
  · split at e
    · rename_i ds hn
      cases r with
      | lst a1 a2 => exact ⟨_, _, rfl, sqL_le q.fle a1, by rw [a2.length]; exact hn, h1 F H σ ρ ρ' S _ ds Q q a2 e h⟩
      | dic _ _ e => cases e
      | dit _ _ e => cases e
    · cases e
  · cases e
@[simp] theorem fLst_eq {n : Nat} {f : List PD → List O → Option (List O)} {ds : List PD} {ρ : List O} : fLst n f (.list ds) ρ = if ds.length = n then f ds ρ else none := rfl
@[simp] theorem qCbK_eq {f : List O → List O → Option O} {r z : List O → Option (List O)} {ρ : List O} : qCbK f r z ρ = match r ρ with
    | none => none
    | some os => match z ρ with
      | none => none
      | some ps => f os ps := rfl
theorem foldl_max_le {n m : Int} : ∀ {r : List Int}, (n ≤ m ∧ ∀ x ∈ r, x ≤ m) → r.foldl max n ≤ m := by
  intro r
  induction r generalizing n with
  | nil => intro h; exact h.1
  | cons x r ih =>
    intro h
    have hx := h.2 x List.mem_cons_self
    exact ih ⟨by omega, fun y my => h.2 y (List.mem_cons_of_mem _ my)⟩
theorem le_foldl_max {n : Int} : ∀ {r : List Int}, n ≤ r.foldl max n ∧ ∀ x ∈ r, x ≤ r.foldl max n := by
  intro r
  induction r generalizing n with
  | nil => exact ⟨Int.le_refl _, fun x m => by cases m⟩
  | cons x r ih =>
    have i := ih (n := max n x)
    refine ⟨by have := i.1; simp only [List.foldl_cons]; omega, fun y my => ?_⟩
    rcases List.mem_cons.mp my with e | my
    · have := i.1
      simp only [List.foldl_cons]
      omega
    · exact i.2 y my
end
end FM
namespace FM
open PySem PySem.Spec L2 PyProof.Rows
/-! ### a comprehension in a comprehension -/
theorem relook {p : Str → NameKind → Bool} : ∀ {names : List (Str × NameKind)} {x : Str}, (names.lookup x = some .cell ∨ names.lookup x = some .free) → ((names.map fun (n, k) => if p n k then (n, NameKind.cell) else (n, k)).lookup x = some .cell ∨ (names.map fun (n, k) => if p n k then (n, NameKind.cell) else (n, k)).lookup x = some .free)
  | [], _, h => by simp at h
  | (n, k) :: r, x, h => by
    by_cases e : (x == n) = true
    · rw [List.lookup_cons, e] at h
      simp only [Option.some.injEq] at h
      rw [List.map_cons]
      simp only
      split
      · rw [List.lookup_cons, e]
        exact .inl rfl
      · rw [List.lookup_cons, e]
        simpa using h
    · have e' : (x == n) = false := by simpa using e
      rw [List.lookup_cons, e'] at h
      rw [List.map_cons]
      simp only at h ⊢
      have ih := relook (p := p) h
      split
      · rw [List.lookup_cons, e']
        exact ih
      · rw [List.lookup_cons, e']
        exact ih
theorem blkOk_rel {N : List Str} {inner scope : Scope} {own : List (Str × Nat)} {env : Env} (h : BlkOk N inner scope own) : BlkOk N (relabel inner env) scope own :=
  ⟨h.kind, h.uniq, h.ix, fun y m e => relook (p := fun n k => k == NameKind.free && env.scope.kind == .function && env.kindOf n == some .cell) (h.free y m e), h.own⟩
end FM
namespace FM
open PySem PySem.Spec L2 PyProof.Rows
/-! ### the least number that all borders divide -/
def lcmL : List Nat → Nat → Nat
  | [], m => m
  | b :: r, m => lcmL r (Nat.lcm m b)
theorem div_gcd_mul {m b : Nat} (hm : 0 < m) : m / Nat.gcd m b * b = Nat.lcm m b := by
  have hg : 0 < Nat.gcd m b := Nat.gcd_pos_of_pos_left b hm
  obtain ⟨k, hk⟩ := Nat.gcd_dvd_left m b
  have e1 : m / Nat.gcd m b = k := by
    conv => lhs; arg 1; rw [hk]
    exact Nat.mul_div_cancel_left k hg
  have e2 : Nat.lcm m b = k * b := by
    unfold Nat.lcm
    conv => lhs; arg 1; arg 1; rw [hk]
    rw [Nat.mul_assoc, Nat.mul_div_cancel_left _ hg]
  rw [e1, e2]
theorem lcmL_pos : ∀ {bs : List Nat} {m : Nat}, 0 < m → (∀ b ∈ bs, 0 < b) → 0 < lcmL bs m
  | [], _, h, _ => h
  | b :: r, m, h, hb => lcmL_pos (bs := r) (m := Nat.lcm m b) (Nat.lcm_pos h (hb b List.mem_cons_self)) fun c mc => hb c (List.mem_cons_of_mem _ mc)
theorem dvd_lcmL0 : ∀ {bs : List Nat} {m : Nat}, m ∣ lcmL bs m
  | [], _ => Nat.dvd_refl _
  | b :: r, m => Nat.dvd_trans (Nat.dvd_lcm_left m b) dvd_lcmL0
theorem dvd_lcmL : ∀ {bs : List Nat} {m b : Nat}, b ∈ bs → b ∣ lcmL bs m
  | c :: r, m, b, h => by
    rcases List.mem_cons.mp h with rfl | h
    · exact Nat.dvd_trans (Nat.dvd_lcm_right m b) dvd_lcmL0
    · exact dvd_lcmL (bs := r) (m := Nat.lcm m c) h
theorem lcmL_dvd : ∀ {bs : List Nat} {m k : Nat}, m ∣ k → (∀ b ∈ bs, b ∣ k) → lcmL bs m ∣ k
  | [], _, _, h, _ => h
  | b :: r, m, k, h, hb => lcmL_dvd (bs := r) (m := Nat.lcm m b) (Nat.lcm_dvd h (hb b List.mem_cons_self)) fun c mc => hb c (List.mem_cons_of_mem _ mc)
def primesL : List Nat := [2, 3, 5, 7, 11, 13, 17, 19, 23, 29, 31, 37, 41, 43, 47, 53, 59, 61]
theorem small_prime : ∀ g : Nat, g ≤ 64 → 2 ≤ g → ∃ p ∈ primesL, p ∣ g := by decide
/-- what none of the primes divides, and divides the common border, is 1 -/
theorem no_prime {f : Nat} (hf : ∀ p ∈ primesL, ¬ p ∣ f) : ∀ {bs : List Nat} {m : Nat}, (∀ b ∈ bs, 1 ≤ b ∧ b ≤ 64) → f ∣ lcmL bs m → f ∣ m
  | [], _, _, h => h
  | b :: r, m, hb, h => by
    have h1 := no_prime hf (bs := r) (m := Nat.lcm m b) (fun c mc => hb c (List.mem_cons_of_mem _ mc)) h
    have h2 : f ∣ m * b := Nat.dvd_trans h1 (Nat.lcm_dvd_mul m b)
    have hbb := hb b List.mem_cons_self
    have hc : Nat.Coprime f b := by
      have g1 : Nat.gcd f b ∣ b := Nat.gcd_dvd_right f b
      have g2 := Nat.le_of_dvd (by omega) g1
      rcases Nat.lt_or_ge (Nat.gcd f b) 2 with z | z
      · have : 0 < Nat.gcd f b := Nat.gcd_pos_of_pos_right f (by omega)
        show Nat.gcd f b = 1
        omega
      · obtain ⟨p, mp, dp⟩ := small_prime _ (by omega) z
        exact (hf p mp (Nat.dvd_trans dp (Nat.gcd_dvd_left f b))).elim
    exact hc.dvd_of_dvd_mul_right h2
theorem drop_prime {bs : List Nat} {p : Nat} (hb : ∀ b ∈ bs, 1 ≤ b) (hp : 2 ≤ p) (h : p ∣ lcmL bs 1) : ∃ b ∈ bs, lcmL bs 1 / p % b ≠ 0 := by
  have hl := lcmL_pos (bs := bs) (m := 1) (by decide) fun b m => hb b m
  obtain ⟨k, hk⟩ := h
  have e1 : lcmL bs 1 / p = k := by rw [hk]; exact Nat.mul_div_cancel_left k (by omega)
  rcases Classical.em (∃ b ∈ bs, k % b ≠ 0) with z | z
  · rw [e1]; exact z
  · have hd : lcmL bs 1 ∣ k := lcmL_dvd (Nat.one_dvd k) fun b m => by
      rcases Nat.eq_zero_or_pos (k % b) with w | w
      · exact Nat.dvd_of_mod_eq_zero w
      · exact (z ⟨b, m, by omega⟩).elim
    have hk0 : 0 < k := by
      rcases Nat.eq_zero_or_pos k with w | w
      · rw [w, Nat.mul_zero] at hk; omega
      · exact w
    have hle := Nat.le_of_dvd hk0 hd
    have : k * 2 ≤ p * k := by rw [Nat.mul_comm p k]; exact Nat.mul_le_mul_left k hp
    omega
theorem nat_mod {a b : Nat} : ((a : Int) % (b : Int)) = ((a % b : Nat) : Int) := by omega
theorem nat_div {a b : Nat} : ((a : Int) / (b : Int)) = ((a / b : Nat) : Int) := by omega
end FM
namespace FM
open PySem PySem.Spec L2 PyProof.Rows
/-! ### comprehensions with effects; max of a list -/
def lcW (f : QG) (e : M O) (vs : List Nat) : List PD → List PD → List O → (List PD → List O → Prop) → Prop
  | [], acc, ρ, Q => Q acc ρ
  | x :: xs, acc, ρ, Q => ∃ ρ1, f x ρ = some ρ1 ∧ wM (e ρ1) fun o ρ2 => ∃ d, o = .fz d ∧ acc.length < sizeLine ∧ lcW f e vs xs (acc ++ [d]) (wipeO ρ2 vs) Q
theorem lcW_go {f : QG} {e : M O} {vs : List Nat} {Q : List PD → List O → Prop} : ∀ {xs acc : List PD} {ρ : List O}, lcW f e vs xs acc ρ Q → ∃ ds ρ2, lcGoM f bYes e vs xs acc ρ = .ok ds ρ2 ∧ Q ds ρ2
  | [], acc, ρ, h => ⟨acc, ρ, rfl, h⟩
  | x :: xs, acc, ρ, h => by
    obtain ⟨ρ1, e1, h⟩ := h
    unfold lcGoM
    rw [e1]
    simp only [bYes]
    cases e2 : e ρ1 with
    | ok o ρ2 =>
      rw [e2] at h
      obtain ⟨d, rfl, h1, h2⟩ := h
      simp only [h1, if_true]
      exact lcW_go h2
    | _ => rw [e2] at h; exact h.elim
theorem wM_lcI {mi : M (List PD)} {f : QG} {e : M O} {vs : List Nat} {ρ : List O} {Q : O → List O → Prop} (h : wM (mi ρ) fun ds ρ1 => lcW f e vs ds [] (wipeO ρ1 vs) fun acc ρ2 => Q (.lst acc) ρ2) : wM (mLc mi f bYes e vs ρ) Q := by
  unfold mLc
  cases e1 : mi ρ with
  | ok ds ρ1 =>
    rw [e1] at h
    obtain ⟨acc, ρ2, e2, q⟩ := lcW_go h
    simp only [e2]
    exact q
  | _ => rw [e1] at h; exact h.elim
theorem maxI_cons {x : Int} : ∀ {r : List Int}, maxI (x :: r) = r.foldl max x
  | [] => rfl
  | y :: r => by
    show max x (maxI (y :: r)) = (y :: r).foldl max x
    rw [maxI_cons]
    rw [List.foldl_cons]
    have h : ∀ (r : List Int) (a b : Int), max a (r.foldl max b) = r.foldl max (max a b) := by
      intro r
      induction r with
      | nil => intro a b; rfl
      | cons z r ih =>
        intro a b
        rw [List.foldl_cons, List.foldl_cons, ih, Int.max_assoc]
    exact h r x y
theorem eqv_int {i j : Int} : PyData.eqv (.int i) (.int j) = decide (i = j) := by simp [PyData.eqv, beq_dec]
theorem oIn_ints {i : Int} {l : List Int} : oIn (.fz (.int i)) (.fz (.list (l.map .int))) = some (.fz (.bool (decide (i ∈ l)))) := by
  have e1 := shaped_ints l
  have e2 : SeqAt.shaped (PyData.int i) = true := by simp [SeqAt.shaped, PyData.canLay0, PyData.depth]
  have e3 : ((l.map PyData.int).any fun z => PyData.eqv z (.int i)) = decide (i ∈ l) := by
    rw [List.any_map, Bool.eq_iff_iff, List.any_eq_true]
    constructor
    · rintro ⟨j, mj, e⟩
      simp [eqv_int] at e
      rw [← e]
      simpa using mj
    · intro mi
      exact ⟨i, by simpa using mi, by simp [eqv_int]⟩
  have e4 : bIn (.fz (.int i)) (.fz (.list (l.map .int))) = some (decide (i ∈ l)) := by
    rw [← e3]
    show (if (SeqAt.shaped (PyData.int i) && SeqAt.shaped (PyData.list (l.map PyData.int))) = true then _ else _) = _
    rw [e1, e2]
    rfl
  unfold oIn
  rw [e4]
  rfl
def rngL (lo : Int) (n : Nat) : List Int := (List.range n).map fun i : Nat => lo + (i : Int)
theorem rngD_L {lo : Int} {n : Nat} : rngD lo n = (rngL lo n).map .int := by
  unfold rngD rngL
  rw [List.map_map]
  rfl
theorem rngL_mem {lo x : Int} {n : Nat} : x ∈ rngL lo n ↔ lo ≤ x ∧ x < lo + n := by
  unfold rngL
  rw [List.mem_map]
  constructor
  · rintro ⟨i, m, rfl⟩
    have := List.mem_range.mp m
    omega
  · rintro ⟨h1, h2⟩
    exact ⟨(x - lo).toNat, List.mem_range.mpr (by omega), by omega⟩
theorem qLrg2_i {a b : QE} {ρ : List O} {m n : Int} (h1 : -(2 ^ 62) ≤ m) (h2 : n < 2 ^ 62) (h3 : m ≤ n) (h4 : n - m ≤ 16777216) (ea : a ρ = some (.fz (.int m))) (eb : b ρ = some (.fz (.int n))) : qLrg2 a b ρ = some (.lst ((rngL m (n - m).toNat).map .int)) := by
  have b1 : big62 m = true := big62_of h1 (by omega)
  have b2 : big62 n = true := big62_of (by omega) h2
  have d : decide ((n - m).toNat ≤ 2 ^ 24) = true := decide_eq_true (by omega)
  unfold qLrg2
  rw [ea, eb]
  simp only [b1, b2, d, Bool.and_self, if_true]
  rw [rngD_L]
@[simp] theorem oMax1_l {l : List Int} (h : 0 < l.length) : oMax1 [.fz (.list (l.map .int))] = some (.fz (.int (maxI l))) := by
  have e : intsD (l.map PyData.int) = some l := intsD_map l
  cases l with
  | nil => cases h
  | cons x l => simp [oMax1, oInts, seqL, e]
def topD (d : Int) : List Int → Int
  | [] => d
  | n :: r => r.foldl max n
@[simp] theorem oMaxD_l {l : List Int} {d : Int} : oMaxD [.fz (.list (l.map .int))] [.fz (.int d)] = some (.fz (.int (topD d l))) := by
  have e : intsD (l.map PyData.int) = some l := intsD_map l
  show (match intsD (l.map PyData.int) with | some [] => some (O.fz (.int d)) | some (n :: r) => some (O.fz (.int (r.foldl max n))) | none => none) = _
  rw [e]
  cases l <;> rfl
end FM
namespace FM
open PySem PySem.Spec L2 PyProof.Rows
/-! ### list(range(..)) of what has effects; xs[::-1] -/
section
variable {k : Kc} {E : XK}
open Classical in
noncomputable def mLrg1 (m : M O) : M O := fun ρ => match m ρ with
  | .ok (.fz (.int n)) ρ1 => if 0 ≤ n ∧ n ≤ 16777216 then .ok (.lst (rngD 0 n.toNat)) ρ1 else .bad
  | .ok _ _ => .bad
  | .exc x ρ1 => .exc x ρ1
  | .bad => .bad
theorem tem_lrg1 {te : TE} {m : M O} (h : TEm k E te m) : TEm k E (tLstRg (tRg1 te)) (mLrg1 m) := by
  intro P e σ ρ vs os H Q s g
  refine h P e σ ρ vs os H _ s ?_
  unfold mLrg1 at g
  cases e1 : m ρ with
  | exc x ρ1 => rw [e1] at g; exact g
  | bad => rw [e1] at g; exact g
  | ok o ρ1 =>
    rw [e1] at g
    intro v H1 s1
    split at g
    · rename_i n ρ2 ee
      cases ee
      split at g
      · rename_i hz
        obtain ⟨F, S1, S2, s1⟩ := s1
        have ev := s1.top.1
        obtain ⟨_, s2⟩ := s1.top
        have hv : v = .int n := by
          cases ev with
          | int => rfl
          | dic _ _ e => cases e
          | dit _ _ e => cases e
        refine ⟨n, hv, ⟨by decide, by decide, by omega, by omega, by omega⟩, ?_⟩
        have r := reps_rg (K := k.K) (F := F) 0 n
        rw [Int.sub_zero] at r
        exact own_list s2.fr.fle r fun w F' H' T x ow fr => g w H' ⟨F', S1, T ++ S2, s2.push x ow fr⟩
      · exact g.elim
    · exact g.elim
    · rename_i hx; cases hx
    · rename_i hx; cases hx
def oRevL (x : O) : Option O := match seqL x with
  | some ds => some (.lst ds.reverse)
  | none => none
def qRevL (a : QE) : QE := fun ρ => match a ρ with
  | none => none
  | some x => oRevL x
theorem Reps.rev {K : Frag} {F : Hp} : ∀ {vs : List V} {ds : List PD}, Reps K F vs ds → Reps K F vs.reverse ds.reverse
  | _, _, .nil => .nil
  | v :: vs, d :: ds, .cons h r => by
    rw [List.reverse_cons, List.reverse_cons]
    exact Reps.append (Reps.rev r) (.cons h .nil)
theorem ten_revL {te : TE} {qa : QE} (ha : TEv k te qa) : TEn k (tRevL k.K te) (qRevL qa) := by
  intro F H σ ρ S o Q q e h
  unfold qRevL at e
  split at e
  · cases e
  · rename_i x e1
    refine ha F H σ ρ S x _ q e1 fun v F1 H1 x1 w1 => ?_
    unfold oRevL at e
    split at e
    · rename_i ds es
      cases e
      obtain ⟨a, vs, rfl, g1, g2⟩ := w1.seqL x1.fle es
      exact ⟨a, vs, rfl, g1, own_list x1.fle (Reps.rev g2) fun w F' H' T x ow fr => h w F' H' T (x1.trans x) ow (fr.back x1)⟩
    · cases e
@[simp] theorem qRevL_eq {a : QE} {ρ : List O} : qRevL a ρ = match a ρ with
    | none => none
    | some x => oRevL x := rfl
@[simp] theorem oRevL_l {ds : List PD} : oRevL (.fz (.list ds)) = some (.lst ds.reverse) := rfl
@[simp] theorem wM_lrg1 {m : M O} {ρ : List O} {Q : O → List O → Prop} : wM (mLrg1 m ρ) Q = wM (m ρ) fun o ρ1 => ∃ n : Int, o = .fz (.int n) ∧ 0 ≤ n ∧ n ≤ 16777216 ∧ Q (.lst (rngD 0 n.toNat)) ρ1 := by
  unfold mLrg1
  cases e : m ρ with
  | ok o ρ1 =>
    cases o with
    | fz d =>
      cases d with
      | int n =>
        by_cases c : 0 ≤ n ∧ n ≤ 16777216
        · simp [c]
        · simp [c, wM]
          intro h1 h2
          exact (c ⟨h1, h2⟩).elim
      | _ => simp [wM]
    | _ => simp [wM]
  | _ => rfl
end
end FM
namespace FM
open PySem PySem.Spec L2 PyProof.Rows
/-! ### a list's method called within a comprehension -/
section
variable {X : Cx} {K : Frag} {o e : Expr} {es : List Expr} {to : TE} {t : TA} {name : Str} {apos cpos : Pos} {T id : String} {r : V → List V → Hp → VK → Prop}
theorem pe_bmC (pa : PlainAttrs T) (slot : Slot T name id) (hty : typeOf (.builtin id) = pure (.type "method_descriptor")) (hm : MtR X id r) (ho : PE X o to) (ha : PA X (e :: es) t) (hK : X.K = K := by rfl)
    (hbase : attributeBase o name X.env (eval o X.env) = eval o X.env := by rfl)
    (hfew : ((backTo cpos (starEach (e :: es) X.env)).all (fun x => !x.1) && (backToKw cpos (keywordEach [] X.env)).all (fun x => x.1.isSome)
      && decide ((e :: es).length + ([] : List Keyword).length + (if ([] : List Keyword).isEmpty then 0 else 1) < 30)) = true := by rfl)
    (hline : (apos.endLine == cpos.line) = true := by rfl) (hs : starEach (e :: es) X.env = (false, eval e X.env) :: starEach es X.env := by rfl) (hplain : (backTo cpos (starEach es X.env)).any (·.1) = false := by rfl) :
    PE X (.Call (.Attribute o name apos) (e :: es) [] cpos) (tBM K T r to t) := by
  subst hK
  exact pe_bm pa slot hty hm ho ha hbase hfew hline hs hplain
end
end FM
namespace FM
open PySem PySem.Spec L2 PyProof.Rows
/-! ### list.count of ints -/
section
variable {k : Kc} {ta tb : TE} {qa qb : QE}
def oCnt (x y : O) : Option O := match seqL x, y with
  | some ds, .fz (.int i) => match intsD ds with
    | some ns => some (.fz (.int ((ns.count i : Nat) : Int)))
    | none => none
  | _, _ => none
theorem tev_cnt (ha : TEv k ta qa) (hb : TEv k tb qb) : TEv k (tBM k.K "list" (rCntI k.K) ta (tCons tb tNil)) (qOp oCnt qa qb) := by
  intro F H σ ρ S o Q q e h
  unfold qOp at e
  cases e1 : qa ρ with
  | none => rw [e1] at e; cases e
  | some x =>
    rw [e1] at e
    cases e2 : qb ρ with
    | none => simp only [e2] at e; cases e
    | some y =>
      simp only [e2] at e
      unfold oCnt at e
      split at e
      · rename_i ds i es
        split at e
        · rename_i ns en
          cases e
          refine ha F H σ ρ S x _ q e1 fun v F1 H1 x1 w1 => ?_
          obtain ⟨a, vs, rfl, g1, g2⟩ := w1.seqL x1.fle es
          refine ⟨.inl ⟨rfl, vs, g1⟩, ?_⟩
          refine hb F1 H1 σ ρ S _ _ (q.xt x1) e2 fun w F2 H2 x2 w2 => ?_
          obtain ⟨a2, vs2, ee, g3, g4⟩ := (w1.xt x2).seqL x2.fle es
          cases ee
          have hw : w = .int i := by
            have r := w2.rep
            cases r with
            | int => rfl
            | dic _ _ e => cases e
            | dit _ _ e => cases e
          subst hw
          have e3 := intsD_eq en
          subst e3
          rw [reps_ints g4] at g3
          exact ⟨a, ns, i, rfl, rfl, g3, h _ F2 H2 (x1.trans x2) (.fz (.int _))⟩
        · cases e
      · cases e
@[simp] theorem oCnt_l {l : List Int} {i : Int} : oCnt (.fz (.list (l.map .int))) (.fz (.int i)) = some (.fz (.int ((l.count i : Nat) : Int))) := by
  have e : intsD (l.map PyData.int) = some l := intsD_map l
  unfold oCnt
  show (match intsD (l.map PyData.int) with | some ns => some (O.fz (.int ((ns.count i : Nat) : Int))) | none => none) = _
  rw [e]
end
/-! ### what is told of a call is used at once -/
def frz1 (o : O) : O := if flatO o then match toPD o with
  | some d => .fz d
  | none => .dead
  else .dead
def frzA (ρ : List O) : List O := ρ.map frz1
@[simp] theorem frzA_nil : frzA [] = [] := rfl
@[simp] theorem frzA_cons {o : O} {ρ : List O} : frzA (o :: ρ) = frz1 o :: frzA ρ := rfl
@[simp] theorem frz1_fz {d : PD} : frz1 (.fz d) = .fz d := rfl
@[simp] theorem frz1_lst {ds : List PD} : frz1 (.lst ds) = .fz (.list ds) := rfl
def qTmp (q : QE) : QE := fun ρ => match q (frzA ρ) with
  | some (.fz d) => if imm d then some (.fz d) else none
  | _ => none
@[simp] theorem qTmp_eq {q : QE} {ρ : List O} : qTmp q ρ = match q (frzA ρ) with
  | some (.fz d) => if imm d then some (.fz d) else none
  | _ => none := rfl
theorem envs_flat {k : Kc} {F H : Hp} : ∀ {σ : L2.St} {ρ : List O} {S : List Addr}, Envs k F H σ ρ S → (∀ a ∈ S, F a = none) → ∃ T : List Addr, (∀ a ∈ T, a ∈ S) ∧ (∀ a ∈ T, ∀ vs, H a ≠ some (.tup vs)) ∧ (∀ U : List Addr, (∀ a ∈ T, a ∈ U) → (∀ a ∈ U, F a = none) → Envs k (over F H U) H σ (frzA ρ) [])
  | _, _, _, .nil, _ => ⟨[], (fun a m => by cases m), (fun a m => by cases m), fun _ _ _ => .nil⟩
  | _, _, _, .dead r, off => by
    obtain ⟨T, m, n, e⟩ := envs_flat r off
    exact ⟨T, m, n, fun U h1 h2 => .dead (e U h1 h2)⟩
  | _, _, _, .cons (o := o) w r, off => by
    obtain ⟨T2, m2, n2, e2⟩ := envs_flat r fun a z => off a (List.mem_append_right _ z)
    by_cases c : flatO o = true
    · cases q1 : toPD o with
      | none =>
        have e : frz1 o = .dead := by unfold frz1; rw [if_pos c, q1]
        refine ⟨T2, fun a z => List.mem_append_right _ (m2 a z), n2, fun U h1 h2 => ?_⟩
        rw [frzA_cons, e]
        exact .dead (e2 U h1 h2)
      | some d =>
        have e : frz1 o = .fz d := by unfold frz1; rw [if_pos c, q1]
        refine ⟨_ ++ T2, fun a z => (List.mem_append.mp z).elim (fun z => List.mem_append_left _ z) fun z => List.mem_append_right _ (m2 a z), fun a z => (List.mem_append.mp z).elim (Own.notup w c a) (n2 a), fun U h1 h2 => ?_⟩
        rw [frzA_cons, e]
        have rr := own_fz (T := U) (over_sub fun a z => h2 a z) (fun a u m r => over_rd m r) (fun a vs m r => by rw [over_in m]; exact r) (fun a z => h1 a (List.mem_append_left _ z)) w q1
        exact .cons (S := []) (T := []) (.fz rr) (e2 U (fun a z => h1 a (List.mem_append_right _ z)) h2)
    · have e : frz1 o = .dead := by unfold frz1; rw [if_neg c]
      refine ⟨T2, fun a z => List.mem_append_right _ (m2 a z), n2, fun U h1 h2 => ?_⟩
      rw [frzA_cons, e]
      exact .dead (e2 U h1 h2)
theorem tev_tmp {k : Kc} {te : TE} {q : QE} (h : TEv k te q) : TEv k te (qTmp q) := by
  intro F H σ ρ S o Q qst e g
  unfold qTmp at e
  split at e
  · rename_i d e1
    split at e
    · rename_i im
      cases e
      obtain ⟨T, mT, nT, rT⟩ := envs_flat qst.env qst.off
      have offT : ∀ a ∈ T, F a = none := fun a z => qst.off a (mT a z)
      refine h (over F H T) H σ (frzA ρ) [] _ _ ⟨over_le qst.fle, rT T (fun _ z => z) offT, fun a m => by cases m⟩ e1 fun v F' H' x w => ?_
      have r := w.rep
      let G : Hp := fun a => if a ∈ T then none else F' a
      have gout : ∀ {a : Addr}, a ∉ T → G a = F' a := fun n => if_neg n
      have hT : ∀ a ∈ T, ∃ u, H a = some u := fun a z => by
        cases w : H a with
        | none => exact absurd w (qst.env.there a (mT a z)).1
        | some u => exact ⟨u, rfl⟩
      refine g v G H' ⟨x.ex, fun a u z => ?_, fun a u z => ?_, fun a u z => ?_⟩ (.fz (r.imm (fun a vs z => ?_) im))
      · have n : a ∉ T := fun m => by rw [offT a m] at z; cases z
        rw [gout n]
        exact x.sub a u (by rw [over_out n]; exact z)
      · by_cases n : a ∈ T
        · have : G a = none := if_pos n
          rw [this] at z; cases z
        · rw [gout n] at z
          exact x.fle a u z
      · by_cases n : a ∈ T
        · have : G a = none := if_pos n
          rw [this] at z; cases z
        · rw [gout n] at z
          rcases x.fresh a u z with y | y
          · rw [over_out n] at y; exact .inl y
          · exact .inr y
      · have n : a ∉ T := fun m => by
          obtain ⟨u, hu⟩ := hT a m
          have := x.sub a u (by rw [over_in m]; exact hu)
          rw [z] at this
          cases this
          exact nT a m vs hu
        rw [gout n]
        exact z
    · cases e
  · cases e
end FM
namespace FM
open PySem PySem.Spec L2 PyProof.Rows
/-! ### dicts of one's own whose entries are one's own: taking an entry out, putting it back, storing -/
def setO : List (Key × O) → Key → O → List (Key × O)
  | [], _, _ => []
  | (y, o1) :: r, x, o => if y = x then (y, o) :: r else (y, o1) :: setO r x o
def putO (os : List (Key × O)) (x : Key) (o : O) : List (Key × O) := if (lk os x).isSome then setO os x o else os ++ [(x, o)]
theorem lk_pos {o : O} {y x : Key} {r : List (Key × O)} (e : y = x) : lk ((y, o) :: r) x = some o := by simp [lk, List.find?_cons, e]
theorem lk_neg {o : O} {y x : Key} {r : List (Key × O)} (e : ¬ y = x) : lk ((y, o) :: r) x = lk r x := by simp [lk, List.find?_cons, e]
theorem OwnK.keys {k : Kc} {F H : Hp} : ∀ {vs : List (Key × V)} {os : List (Key × O)} {S : List Addr}, OwnK k F H vs os S → vs.map (·.1) = os.map (·.1)
  | _, _, _, .nil => rfl
  | _, _, _, .cons _ r => congrArg (_ :: ·) (OwnK.keys r)
theorem OwnK.take {k : Kc} {F H : Hp} {x : Key} : ∀ {vs : List (Key × V)} {os : List (Key × O)} {S : List Addr} {o : O}, OwnK k F H vs os S → lk os x = some o → ∃ v T R, valV vs x = some v ∧ Own k F H v o T ∧ OwnK k F H vs (setO os x .dead) R ∧ (T ++ R).Perm S
  | _, _, _, _, .nil, e => by cases e
  | _, _, _, o, .cons (x := y) (v := v) (o := o1) (os := os) (S := S1) (T := S2) h r, e => by
    by_cases q : y = x
    · rw [lk_pos q] at e
      cases e
      refine ⟨v, S1, S2, valV_pos q, h, ?_, .refl _⟩
      unfold setO
      rw [if_pos q]
      exact .cons (S := []) .dead r
    · rw [lk_neg q] at e
      obtain ⟨v', T, R, h1, h2, h3, h4⟩ := OwnK.take r e
      refine ⟨v', T, S1 ++ R, by rw [valV_neg q]; exact h1, h2, ?_, ?_⟩
      · unfold setO
        rw [if_neg q]
        exact .cons h h3
      · have : (T ++ (S1 ++ R)).Perm (S1 ++ (T ++ R)) := by
          rw [← List.append_assoc, ← List.append_assoc]
          exact List.Perm.append_right R List.perm_append_comm
        exact this.trans (List.Perm.append_left S1 h4)
theorem OwnK.put {k : Kc} {F H : Hp} {x : Key} {v : V} {o : O} {T : List Addr} (w : Own k F H v o T) : ∀ {vs : List (Key × V)} {os : List (Key × O)} {S : List Addr}, OwnK k F H vs os S → valV vs x = some v → ∃ U, (∀ a, U.count a ≤ (T ++ S).count a) ∧ OwnK k F H vs (setO os x o) U
  | _, _, _, .nil, e => by cases e
  | _, _, _, .cons (x := y) (v := v1) (o := o1) (os := os) (S := S1) (T := S2) h r, e => by
    by_cases q : y = x
    · rw [valV_pos q] at e
      cases e
      refine ⟨T ++ S2, fun a => by simp only [List.count_append]; omega, ?_⟩
      unfold setO
      rw [if_pos q]
      exact .cons w r
    · rw [valV_neg q] at e
      obtain ⟨U, h1, h2⟩ := OwnK.put w r e
      refine ⟨S1 ++ U, fun a => by have := h1 a; simp only [List.count_append] at this ⊢; omega, ?_⟩
      unfold setO
      rw [if_neg q]
      exact .cons h h2
theorem map_noK {x : Key} {y : V} : ∀ {vs : List (Key × V)}, x ∉ vs.map (·.1) → vs.map (fun kv => if kv.1 = x then (kv.1, y) else kv) = vs
  | [], _ => rfl
  | (z, v) :: vs, h => by
    rw [List.map_cons, List.mem_cons, not_or] at h
    rw [List.map_cons, if_neg (fun e => h.1 e.symm), map_noK h.2]
theorem OwnK.store1 {k : Kc} {F H : Hp} {x : Key} {y : V} {o : O} {T : List Addr} (w : Own k F H y o T) : ∀ {vs : List (Key × V)} {os : List (Key × O)} {S : List Addr}, OwnK k F H vs os S → (os.map (·.1)).Nodup → x ∈ os.map (·.1) → ∃ U, (∀ a, U.count a ≤ (T ++ S).count a) ∧ OwnK k F H (vs.map fun kv => if kv.1 = x then (kv.1, y) else kv) (setO os x o) U
  | _, _, _, .nil, _, m => by cases m
  | _, _, _, .cons (x := z) (v := v1) (o := o1) (vs := vs) (os := os) (S := S1) (T := S2) h r, nd, m => by
    obtain ⟨n1, n2⟩ := List.nodup_cons.mp nd
    by_cases q : z = x
    · refine ⟨T ++ S2, fun a => by simp only [List.count_append]; omega, ?_⟩
      have hn : x ∉ vs.map (·.1) := by rw [OwnK.keys r, ← q]; exact n1
      rw [List.map_cons, if_pos q, map_noK hn]
      unfold setO
      rw [if_pos q]
      exact .cons w r
    · have m2 : x ∈ os.map (·.1) := by
        rcases List.mem_cons.mp m with e | e
        · exact (q e.symm).elim
        · exact e
      obtain ⟨U, h1, h2⟩ := OwnK.store1 w r n2 m2
      refine ⟨S1 ++ U, fun a => by have := h1 a; simp only [List.count_append] at this ⊢; omega, ?_⟩
      rw [List.map_cons, if_neg q]
      unfold setO
      rw [if_neg q]
      exact .cons h h2
theorem OwnK.snoc {k : Kc} {F H : Hp} {x : Key} {y : V} {o : O} {T : List Addr} (w : Own k F H y o T) : ∀ {vs : List (Key × V)} {os : List (Key × O)} {S : List Addr}, OwnK k F H vs os S → ∃ U, (∀ a, U.count a ≤ (T ++ S).count a) ∧ OwnK k F H (vs ++ [(x, y)]) (os ++ [(x, o)]) U
  | _, _, _, .nil => ⟨T ++ [], fun a => by simp, .cons w .nil⟩
  | _, _, _, .cons (S := S1) h r => by
    obtain ⟨U, h1, h2⟩ := OwnK.snoc w r
    exact ⟨S1 ++ U, fun a => by have := h1 a; simp only [List.count_append] at this ⊢; omega, .cons h h2⟩
theorem lk_mem {x : Key} : ∀ {os : List (Key × O)}, (lk os x).isSome = true ↔ x ∈ os.map (·.1)
  | [] => by simp [lk]
  | (y, o) :: r => by
    by_cases q : y = x
    · rw [lk_pos q]; simp [q]
    · rw [lk_neg q, lk_mem (os := r), List.map_cons, List.mem_cons]
      exact ⟨.inr, fun h => h.elim (fun e => (q e.symm).elim) id⟩
theorem OwnK.store {k : Kc} {F H : Hp} {x : Key} {y : V} {o : O} {T S : List Addr} {vs : List (Key × V)} {os : List (Key × O)} (w : Own k F H y o T) (h : OwnK k F H vs os S) (nd : (os.map (·.1)).Nodup) : ∃ U, (∀ a, U.count a ≤ (T ++ S).count a) ∧ OwnK k F H (putK vs x y) (putO os x o) U := by
  unfold putK putO
  have e : (vs.any fun kv => decide (kv.1 = x)) = (lk os x).isSome := by
    rw [Bool.eq_iff_iff, lk_mem, ← OwnK.keys h, List.any_eq_true]
    simp
  rw [e]
  split
  · rename_i c
    exact OwnK.store1 w h nd (lk_mem.mp c)
  · exact OwnK.snoc w h
theorem setO_pos {o1 o : O} {y x : Key} {r : List (Key × O)} (e : y = x) : setO ((y, o1) :: r) x o = (y, o) :: r := if_pos e
theorem setO_neg {o1 o : O} {y x : Key} {r : List (Key × O)} (e : ¬ y = x) : setO ((y, o1) :: r) x o = (y, o1) :: setO r x o := if_neg e
theorem setO_setO {x : Key} {o o' : O} : ∀ {kvs : List (Key × O)}, setO (setO kvs x o) x o' = setO kvs x o'
  | [] => rfl
  | (y, o1) :: r => by
    by_cases q : y = x
    · rw [setO_pos q, setO_pos q, setO_pos q]
    · rw [setO_neg q, setO_neg q, setO_neg q, setO_setO]
/-! ### an entry of a slot -/
section
variable {k : Kc} {E : XK}
/-- the entry's list: where it stands, and what may be written there -/
theorem StW.entAt {P : List (Nat × V)} {e : Ent} {σ : L2.St} {ρ : List O} {vs : List V} {os : List O} {F H : Hp} {S1 S2 : List Addr} {i : Nat} {x : Key} {kvs : List (Key × O)} {ds : List PD} (s : StW k P e σ ρ vs os F H S1 S2) (e0 : qVar i ρ = some (.ndc kvs)) (e1 : lk kvs x = some (.lst ds)) :
    ∃ d a es ws, σ[i]? = some (some (.ref d)) ∧ H d = some (.dK es) ∧ valV es x = some (.ref a) ∧ H a = some (.lst ws) ∧ Reps k.K F ws ds ∧ ∀ ws' ds', Reps k.K F ws' ds' → ∃ U, StW k P e σ (ρ.set i (.ndc (setO kvs x (.lst ds')))) vs os F (upd H a (.lst ws')) U S2 := by
  obtain ⟨env, tmp, fr, pin⟩ := s
  obtain ⟨g1, g2⟩ := qVar_some e0
  obtain ⟨v, T, R, a1, a2, a3, a4⟩ := env.take g1 g2
  cases a2 with
  | @ndc d es _ T2 hd hk =>
    obtain ⟨v, T3, R3, k1, k2, k3, k4⟩ := hk.take e1
    cases k2 with
    | @lst a ws _ h r =>
      have fr' : Fr e F H (a :: d :: (R3 ++ (R ++ S2))) := Sbp.fr fr (.of_count fun b => by
        have c2 := a4.count_eq b
        have c3 := k4.count_eq b
        simp only [List.count_append, List.count_cons, List.count_nil] at c2 c3 ⊢
        omega)
      have ha : H a = some (.lst ws) := by
        rcases h with h | ⟨ob, h⟩
        · exact h
        · exact (fr'.nofz a List.mem_cons_self ob _ h).elim
      have hdd : H d = some (.dK es) := by
        rcases hd with h | ⟨ob, h⟩
        · exact h
        · exact (fr'.nofz d (List.mem_cons_of_mem _ List.mem_cons_self) ob _ h).elim
      refine ⟨d, a, es, ws, a1, hdd, k1, ha, r, fun ws' ds' r' => ?_⟩
      have nd := List.nodup_cons.mp fr'.nd
      have at_ : ∀ U : List Addr, (∀ b ∈ U, b ∈ d :: (R3 ++ (R ++ S2))) → At U H (upd H a (.lst ws')) := fun U m b mb u z => by
        rw [upd_ne (fun q => nd.1 (by rw [← q]; exact m b mb))]
        exact z
      have fw := fr'.write (a := a) (o := .lst ws') List.mem_cons_self (fun _ _ z => by cases z)
      have env3 := a3.mono (Same.refl F) (at_ R fun b m => List.mem_cons_of_mem _ (List.mem_append_right _ (List.mem_append_left _ m)))
      have tmp3 := tmp.mono (Same.refl F) (at_ S2 fun b m => List.mem_cons_of_mem _ (List.mem_append_right _ (List.mem_append_right _ m)))
      have hk3 := k3.mono (Same.refl F) (at_ R3 fun b m => List.mem_cons_of_mem _ (List.mem_append_left _ m))
      have hne : d ≠ a := fun q => nd.1 (by rw [← q]; exact List.mem_cons_self)
      obtain ⟨U3, m3, q3⟩ := hk3.put (x := x) (Own.lst (k := k) (F := F) (.inl upd_same) r') k1
      rw [setO_setO] at q3
      obtain ⟨U, mU, q⟩ := env3.put (i := i) a1 (Own.ndc (k := k) (F := F) (.inl (by rw [upd_ne hne]; exact hdd)) q3)
      rw [List.set_set] at q
      exact ⟨U, q, tmp3, Sbp.fr fw (.of_count fun b => by
        have h1 := mU.count b
        have h2 := m3 b
        simp only [List.count_append, List.count_cons, List.count_nil] at h1 h2 ⊢
        omega), pin⟩
end
end FM
namespace FM
open PySem PySem.Spec L2 PyProof.Rows
/-! ### a list's method on an entry of one's own dict; storing into such a dict -/
section
variable {k : Kc} {E : XK}
theorem ix_ent {K : Frag} {H : Hp} {d : Addr} {es : List (Key × V)} {z : Str} {v : V} {Q : VK} (hd : H d = some (.dK es)) (hv : valV es (.inr z) = some v) (q : Q v H) : rIxU K (.ref d) (.str z) H Q :=
  .inr ⟨_, v, rfl, .inl ⟨_, .inr z, .inl hd, rfl, hv.symm⟩, q⟩
def mMtE (i : Nat) (z : Str) (f : List PD → List PD → Option (PD × List PD)) (qs : List O → Option (List O)) : M O := fun ρ => match qVar i ρ with
  | some (.ndc kvs) => match lk kvs (.inr z) with
    | some (.lst ds) => match qs ρ with
      | some xs => match fzs xs with
        | some zs => match f ds zs with
          | some r => .ok (.fz r.1) (ρ.set i (.ndc (setO kvs (.inr z) (.lst r.2))))
          | none => .bad
        | none => .bad
      | none => .bad
    | _ => .bad
  | _ => .bad
theorem tem_mtE {i : Nat} {z : Str} {r : V → List V → Hp → VK → Prop} {f : List PD → List PD → Option (PD × List PD)} {ta : TA} {qs : List O → Option (List O)} (h : TAv k ta qs) (hr : LstM k r f) : TEm k E (tBM k.K "list" r (tOp (rIxU k.K) (tVar i) (tC (.str z))) ta) (mMtE i z f qs) := by
  intro P e σ ρ vs os H Q s g
  unfold mMtE at g
  split at g
  · rename_i kvs e0
    split at g
    · rename_i ds e1
      split at g
      · rename_i xs e2
        split at g
        · rename_i zs e3
          cases e4 : f ds zs with
          | none => rw [e4] at g; exact g.elim
          | some rr =>
            rw [e4] at g
            obtain ⟨F, S1, S2, s⟩ := s
            obtain ⟨d, a, es, ws, a1, a2, a3, a4, a5, a6⟩ := s.entAt e0 e1
            refine ⟨.ref d, a1, ix_ent a2 a3 ⟨.inl ⟨rfl, ws, .inl (.inl a4)⟩, h F H σ ρ S1 xs _ s.qs e2 fun us F1 H1 x1 w1 => ?_⟩⟩
            have s2 := s.xt x1
            obtain ⟨d', a', es', ws2, b1, b2, b3, b4, b5, b6⟩ := s2.entAt e0 e1
            rw [a1] at b1
            cases b1
            have hd : H1 d = some (.dK es) := x1.ex _ _ a2
            rw [hd] at b2
            cases b2
            rw [a3] at b3
            cases b3
            have ru := w1.fzs e3
            refine hr F1 H1 a ws2 ds us zs rr.1 rr.2 Q s2.fr.fle b4 b5 ru e4 fun v vs' rv rd => ?_
            obtain ⟨U, s5⟩ := b6 vs' rr.2 rv
            exact g v _ ⟨F1, U, [] ++ S2, s5.env, .cons (.fz rd) s5.tmp, s5.fr, s5.pin⟩
        · exact g.elim
      · exact g.elim
    · exact g.elim
  · exact g.elim
/-- storing what stands on top into an entry -/
theorem StW.entPut {P : List (Nat × V)} {e : Ent} {σ : L2.St} {ρ : List O} {v : V} {o : O} {vs : List V} {os : List O} {F H : Hp} {S1 S2 : List Addr} {i : Nat} {x : Key} {kvs : List (Key × O)} (s : StW k P e σ ρ (v :: vs) (o :: os) F H S1 S2) (e0 : qVar i ρ = some (.ndc kvs)) (nd0 : (kvs.map (·.1)).Nodup) :
    ∃ d es, σ[i]? = some (some (.ref d)) ∧ H d = some (.dK es) ∧ es.length = kvs.length ∧ ∃ U S3, StW k P e σ (ρ.set i (.ndc (putO kvs x o))) vs os F (upd H d (.dK (putK es x v))) U S3 := by
  obtain ⟨env, tmp, fr, pin⟩ := s
  obtain ⟨g1, g2⟩ := qVar_some e0
  obtain ⟨w, T, R, a1, a2, a3, a4⟩ := env.take g1 g2
  cases tmp with
  | @cons _ _ _ _ Tv S3 hv tmp =>
    cases a2 with
    | @ndc d es _ T2 hd hk =>
      have fr' : Fr e F H (d :: (T2 ++ (Tv ++ (R ++ S3)))) := Sbp.fr fr (.of_count fun b => by
        have c2 := a4.count_eq b
        simp only [List.count_append, List.count_cons, List.count_nil] at c2 ⊢
        omega)
      have hdd : H d = some (.dK es) := by
        rcases hd with h | ⟨ob, h⟩
        · exact h
        · exact (fr'.nofz d List.mem_cons_self ob _ h).elim
      have nd := List.nodup_cons.mp fr'.nd
      have at_ : ∀ U : List Addr, (∀ b ∈ U, b ∈ T2 ++ (Tv ++ (R ++ S3))) → At U H (upd H d (.dK (putK es x v))) := fun U m b mb u z => by
        rw [upd_ne (fun q => nd.1 (by rw [← q]; exact m b mb))]
        exact z
      have fw := fr'.write (a := d) (o := .dK (putK es x v)) List.mem_cons_self (fun _ _ z => by cases z)
      have env3 := a3.mono (Same.refl F) (at_ R fun b m => List.mem_append_right _ (List.mem_append_right _ (List.mem_append_left _ m)))
      have tmp3 := tmp.mono (Same.refl F) (at_ S3 fun b m => List.mem_append_right _ (List.mem_append_right _ (List.mem_append_right _ m)))
      have hk3 := hk.mono (Same.refl F) (at_ T2 fun b m => List.mem_append_left _ m)
      have hv3 := hv.mono (Same.refl F) (at_ Tv fun b m => List.mem_append_right _ (List.mem_append_left _ m))
      obtain ⟨U3, m3, q3⟩ := OwnK.store (x := x) hv3 hk3 nd0
      have el : es.length = kvs.length := by
        have := congrArg List.length hk.keys
        simpa using this
      obtain ⟨U, mU, q⟩ := env3.put (i := i) a1 (Own.ndc (k := k) (F := F) (.inl upd_same) q3)
      rw [List.set_set] at q
      exact ⟨d, es, a1, hdd, el, U, S3, q, tmp3, Sbp.fr fw (.of_count fun b => by
        have h1 := mU.count b
        have h2 := m3 b
        simp only [List.count_append, List.count_cons, List.count_nil] at h1 h2 ⊢
        omega), pin⟩
open Classical in
noncomputable def sSetE (i : Nat) (z : Str) (m : M O) : MS := fun ρ => match m ρ with
  | .ok o ρ1 => match qVar i ρ1 with
    | some (.ndc kvs) => if (kvs.map (·.1)).Nodup ∧ kvs.length < sizeLine then .next (ρ1.set i (.ndc (putO kvs (.inr z) o))) else .bad
    | _ => .bad
  | .exc x ρ1 => .exc x ρ1
  | .bad => .bad
theorem tsm_setE {s : Nat} {z : Str} {te : TE} {m : M O} (h : TEm k E te m) : TSm k E [] (tAsg te (gSub (tVar s) (tC (.str z)) rSetU)) (sSetE s z m) := by
  intro P e σ ρ vs os H D o st g
  refine h P e σ ρ vs os H _ st ?_
  unfold sSetE at g
  cases e1 : m ρ with
  | exc x ρ1 => rw [e1] at g; exact g.exc
  | bad => rw [e1] at g; exact g
  | ok w ρ1 =>
    rw [e1] at g
    intro v H1 s1
    simp only at g
    obtain ⟨F, S1, S2, s1⟩ := s1
    split at g
    · rename_i kvs e2
      split at g
      · rename_i hz
        obtain ⟨d, es, a1, a2, a3, U, S3, s5⟩ := s1.entPut (x := .inr z) e2 hz.1
        refine ⟨.ref d, a1, .inr ⟨d, _, rfl, DPut.k (k := .inr z) a2 (by rw [a3]; exact hz.2), ?_⟩⟩
        exact g σ _ ⟨F, U, S3, s5⟩
      · exact g.elim
    · exact g.elim
end
end FM
namespace FM
open PySem PySem.Spec L2 PyProof.Rows
/-! ### a dict's display, entries of any kind under texts -/
section
variable {k : Kc} {E : XK}
def kvZ (zs : List Str) (ys : List V) : List (Key × V) := List.zipWith (fun z y => (.inr z, y)) zs ys
def koZ (zs : List Str) (ys : List O) : List (Key × O) := List.zipWith (fun z y => (.inr z, y)) zs ys
def Dsp (trs : List (TE × TE)) (zs : List Str) (tl : TA) : Prop := ∀ (σ : L2.St) (H : Hp) (R : List (V × V) → Hp → Prop), tPairs trs σ H R = tl σ H fun ys H' => R ((kvZ zs ys).map fun kv => (kV kv.1, kv.2)) H'
theorem dsp_nil : Dsp [] [] tNil := fun σ H R => rfl
theorem dsp_cons {z : Str} {te : TE} {trs : List (TE × TE)} {zs : List Str} {tl : TA} (h : Dsp trs zs tl) : Dsp ((tC (.str z), te) :: trs) (z :: zs) (tCons te tl) := fun σ H R => by
  show te σ H (fun y H2 => tPairs trs σ H2 fun ps H3 => R ((.str z, y) :: ps) H3) = te σ H fun x H1 => tl σ H1 fun xs H2 => R ((kvZ (z :: zs) (x :: xs)).map fun kv => (kV kv.1, kv.2)) H2
  congr 1
  funext y H2
  rw [h σ H2]
  rfl
theorem Owns.cut : ∀ {ws vs : List V} {xs os : List O} {F H : Hp} {S : List Addr}, Owns k F H (ws ++ vs) (xs ++ os) S → ws.length = xs.length → ∃ A B, Owns k F H ws xs A ∧ Owns k F H vs os B ∧ S = A ++ B
  | [], vs, [], os, _, _, S, h, _ => ⟨[], S, .nil, h, rfl⟩
  | w :: ws, vs, x :: xs, os, _, _, _, .cons (S := S1) h r, hl => by
    obtain ⟨A, B, h1, h2, e⟩ := Owns.cut (ws := ws) (xs := xs) r (by simpa using hl)
    exact ⟨S1 ++ A, B, .cons h h1, h2, by rw [e, List.append_assoc]⟩
  | [], _, _ :: _, _, _, _, _, _, hl => by cases hl
  | _ :: _, _, [], _, _, _, _, _, hl => by cases hl
theorem OwnK.zip {F H : Hp} : ∀ {zs : List Str} {ws : List V} {xs : List O} {A : List Addr}, Owns k F H ws xs A → zs.length = xs.length → OwnK k F H (kvZ zs ws) (koZ zs xs) A
  | [], _, _, _, .nil, _ => .nil
  | z :: zs, _, _, _, .cons h r, hl => .cons h (OwnK.zip r (by simpa using hl))
  | [], _, _, _, .cons _ _, hl => by cases hl
  | _ :: _, _, _, _, .nil, hl => by cases hl
theorem putK_new {kvs : List (Key × V)} {x : Key} {v : V} (h : x ∉ kvs.map (·.1)) : putK kvs x v = kvs ++ [(x, v)] := by
  unfold putK
  have e : (kvs.any fun kv => decide (kv.1 = x)) = false := by
    rw [List.any_eq_false]
    intro p m c
    exact h (List.mem_map.mpr ⟨p, m, by simpa using c⟩)
  rw [e]
  rfl
theorem mergeK_new : ∀ {more kvs : List (Key × V)}, ((kvs ++ more).map (·.1)).Nodup → mergeK kvs more = kvs ++ more
  | [], kvs, _ => (List.append_nil kvs).symm
  | (x, v) :: more, kvs, h => by
    show mergeK (putK kvs x v) more = _
    have hx : x ∉ kvs.map (·.1) := fun m => by
      rw [List.map_append, List.nodup_append] at h
      exact h.2.2 x m x (by simp) rfl
    rw [putK_new hx, mergeK_new (by rw [List.append_assoc]; exact h), List.append_assoc]
    rfl
theorem kvZ_keys : ∀ {zs : List Str} {ws : List V}, ws.length = zs.length → (kvZ zs ws).map (·.1) = zs.map fun z => (.inr z : Key)
  | [], [], _ => rfl
  | z :: zs, w :: ws, h => congrArg (_ :: ·) (kvZ_keys (by simpa using h))
  | [], _ :: _, h => by cases h
  | _ :: _, [], h => by cases h
theorem keys_nodup : ∀ {zs : List Str}, zs.Nodup → (zs.map fun z => (.inr z : Key)).Nodup
  | [], _ => List.nodup_nil
  | z :: zs, h => by
    obtain ⟨h1, h2⟩ := List.nodup_cons.mp h
    refine List.nodup_cons.mpr ⟨fun m => ?_, keys_nodup h2⟩
    obtain ⟨y, my, e⟩ := List.mem_map.mp m
    cases e
    exact h1 my
def mDisp (zs : List Str) (ml : M (List O)) : M O := fun ρ => match ml ρ with
  | .ok xs ρ1 => if zs.length = xs.length then .ok (.ndc (koZ zs xs)) ρ1 else .bad
  | _ => .bad
theorem tem_disp {trs : List (TE × TE)} {zs : List Str} {tl : TA} {as : List (Option Nat)} {ml : M (List O)} (hd : Dsp trs zs tl) (hz : zs.Nodup) (h15 : zs.length ≤ 15) (h : TAm k E tl as ml) : TEm k E (tDisp trs) (mDisp zs ml) := by
  intro P e σ ρ vs os H Q s g p hp
  rw [hd σ]
  obtain ⟨F, S1, S2, s⟩ := s
  have sp : St k P e σ ρ (.ref p :: vs) (.ndc [] :: os) (upd H p (.dK [])) := s.pushN hp (fun _ _ z => by cases z) (.ndc (.inl upd_same) .nil)
  refine h P e σ ρ (.ref p :: vs) (.ndc [] :: os) _ _ sp ?_
  unfold mDisp at g
  cases e1 : ml ρ with
  | exc x ρ1 => rw [e1] at g; exact g.elim
  | bad => rw [e1] at g; exact g.elim
  | ok xs ρ1 =>
    rw [e1] at g
    intro ws H1 s1 hl _
    simp only at g
    split at g
    · rename_i hlen
      obtain ⟨F1, T1, T2, env, tmp, fr, pin⟩ := s1
      obtain ⟨A, B, ha, hb, rfl⟩ := tmp.cut hl
      cases hb with
      | @cons _ _ _ _ Tp B2 hpo hb =>
        cases hpo with
        | @ndc _ es _ T0 hdp hk =>
          cases hk
          have fr' : Fr e F1 H1 (p :: (T1 ++ (A ++ B2))) := Sbp.fr fr (.of_count fun b => by
            simp only [List.count_append, List.count_cons, List.count_nil]
            omega)
          have hpp : H1 p = some (.dK []) := by
            rcases hdp with h | ⟨ob, h⟩
            · exact h
            · exact (fr'.nofz p List.mem_cons_self ob _ h).elim
          have nd := List.nodup_cons.mp fr'.nd
          have hwl : ws.length = zs.length := by rw [hl, hlen]
          have hkey : ((([] : List (Key × V)) ++ kvZ zs ws).map (·.1)).Nodup := by
            rw [List.nil_append, kvZ_keys hwl]
            exact keys_nodup hz
          have em : mergeK [] (kvZ zs ws) = kvZ zs ws := mergeK_new hkey
          have hkl : (kvZ zs ws).length ≤ 15 := by
            unfold kvZ
            rw [List.length_zipWith]
            omega
          refine ⟨hpp, kvZ zs ws, rfl, hkl, ?_⟩
          rw [em]
          have at_ : ∀ U : List Addr, (∀ b ∈ U, b ∈ T1 ++ (A ++ B2)) → At U H1 (upd H1 p (.dK (kvZ zs ws))) := fun U m b mb u z => by
            rw [upd_ne (fun q => nd.1 (by rw [← q]; exact m b mb))]
            exact z
          have fw := fr'.write (a := p) (o := .dK (kvZ zs ws)) List.mem_cons_self (fun _ _ z => by cases z)
          have env3 := env.mono (Same.refl F1) (at_ T1 fun b m => List.mem_append_left _ m)
          have ha3 := ha.mono (Same.refl F1) (at_ A fun b m => List.mem_append_right _ (List.mem_append_left _ m))
          have hb3 := hb.mono (Same.refl F1) (at_ B2 fun b m => List.mem_append_right _ (List.mem_append_right _ m))
          have hk3 := OwnK.zip (zs := zs) ha3 hlen
          exact g (.ref p) _ ⟨F1, T1, (p :: A) ++ B2, env3, .cons (.ndc (.inl upd_same) hk3) hb3, Sbp.fr fw (.of_count fun b => by
            simp only [List.count_append, List.count_cons, List.count_nil]
            omega), pin⟩
    · exact g.elim
end
end FM
namespace FM
open PySem PySem.Spec L2 PyProof.Rows
/-! ### targets that take what is one's own: names, entries of one's own dict, pairs of these -/
section
variable {k : Kc} {E : XK}
abbrev QT := O → List O → Option (List O)
def TGm (k : Kc) (g : TG) (f : QT) (J : List Nat) : Prop := ∀ (P : List (Nat × V)) (e : Ent) (σ : L2.St) (ρ ρ' : List O) (v : V) (o : O) (vs : List V) (os : List O) (H : Hp) (Q : L2.St → Hp → Prop), Off P J → St k P e σ ρ (v :: vs) (o :: os) H → f o ρ = some ρ' →
  (∀ σ' H', St k P e σ' ρ' vs os H' → Q σ' H') → g v σ H Q
def TGsm (k : Kc) (g : TGs) (f : List O → List O → Option (List O)) (J : List Nat) : Prop := ∀ (P : List (Nat × V)) (e : Ent) (σ : L2.St) (ρ ρ' : List O) (ws : List V) (xs : List O) (vs : List V) (os : List O) (H : Hp) (Q : L2.St → Hp → Prop), Off P J → ws.length = xs.length → St k P e σ ρ (ws ++ vs) (xs ++ os) H → f xs ρ = some ρ' →
  (∀ σ' H', St k P e σ' ρ' vs os H' → Q σ' H') → g ws σ H Q
def tName (i : Nat) : QT := fun o ρ => some (ρ.set i o)
theorem tgm_name {i : Nat} : TGm k (gName i) (tName i) [i] := by
  intro P e σ ρ ρ' v o vs os H Q hj s ef h
  cases ef
  exact h _ _ (s.store hj)
open Classical in
noncomputable def tEnt (i : Nat) (z : Str) : QT := fun o ρ => match qVar i ρ with
  | some (.ndc kvs) => if (kvs.map (·.1)).Nodup ∧ kvs.length < sizeLine then some (ρ.set i (.ndc (putO kvs (.inr z) o))) else none
  | _ => none
theorem tgm_ent {s : Nat} {z : Str} : TGm k (gSub (tVar s) (tC (.str z)) rSetU) (tEnt s z) [] := by
  intro P e σ ρ ρ' v o vs os H Q hj st ef h
  unfold tEnt at ef
  obtain ⟨F, S1, S2, s1⟩ := st
  split at ef
  · rename_i kvs e2
    split at ef
    · rename_i hz
      cases ef
      obtain ⟨d, es, a1, a2, a3, U, S3, s5⟩ := s1.entPut (x := .inr z) e2 hz.1
      refine ⟨.ref d, a1, .inr ⟨d, _, rfl, DPut.k (k := .inr z) a2 (by rw [a3]; exact hz.2), ?_⟩⟩
      exact h σ _ ⟨F, U, S3, s5⟩
    · cases ef
  · cases ef
def tNil2 : List O → List O → Option (List O) := fun xs ρ => match xs with
  | [] => some ρ
  | _ => none
def tCons2 (f : QT) (g : List O → List O → Option (List O)) : List O → List O → Option (List O) := fun xs ρ => match xs with
  | o :: r => match f o ρ with
    | some ρ1 => g r ρ1
    | none => none
  | [] => none
theorem tgsm_nil : TGsm k gNil tNil2 [] := by
  intro P e σ ρ ρ' ws xs vs os H Q hj hl s ef h
  cases xs with
  | nil =>
    cases ws with
    | nil => cases ef; exact ⟨rfl, h _ _ s⟩
    | cons => cases hl
  | cons => cases ef
theorem tgsm_cons {t : TG} {u : TGs} {f : QT} {g : List O → List O → Option (List O)} {J L : List Nat} (h1 : TGm k t f J) (h2 : TGsm k u g L) : TGsm k (gCons t u) (tCons2 f g) (J ++ L) := by
  intro P e σ ρ ρ' ws xs vs os H Q hj hl s ef h
  cases xs with
  | nil => cases ef
  | cons o r =>
    cases ws with
    | nil => cases hl
    | cons w ws =>
      unfold tCons2 at ef
      simp only at ef
      cases e1 : f o ρ with
      | none => rw [e1] at ef; cases ef
      | some ρ1 =>
        rw [e1] at ef
        exact ⟨w, ws, rfl, h1 P e σ ρ ρ1 w o _ _ H _ hj.l s e1 fun σ' H' s2 => h2 P e σ' ρ1 ρ' ws r vs os H' Q hj.r (by simpa using hl) s2 ef h⟩
def tTup (n : Nat) (g : List O → List O → Option (List O)) : QT := fun o ρ => match o with
  | .fz (.tuple ds) => if ds.length = n then g (ds.map .fz) ρ else none
  | .ntp os => if os.length = n then g os ρ else none
  | _ => none
theorem owns_reps {F H : Hp} : ∀ {vs : List V} {ds : List PD}, Reps k.K F vs ds → Owns k F H vs (ds.map .fz) []
  | _, _, .nil => .nil
  | _, _, .cons h r => .cons (S := []) (T := []) (.fz h) (owns_reps r)
theorem Owns.len {F H : Hp} : ∀ {vs : List V} {os : List O} {S : List Addr}, Owns k F H vs os S → vs.length = os.length
  | _, _, _, .nil => rfl
  | _, _, _, .cons _ r => congrArg (· + 1) (Owns.len r)
theorem tgm_tup {gs : TGs} {g : List O → List O → Option (List O)} {J : List Nat} {n : Nat} (h1 : TGsm k gs g J) : TGm k (gTup k.K n gs) (tTup n g) J := by
  intro P e σ ρ ρ' v o vs os H Q hj s ef h
  obtain ⟨F, S1, S2, env, tmp, fr, pin⟩ := s
  unfold tTup at ef
  split at ef
  · rename_i ds
    split at ef
    · rename_i hn
      cases tmp with
      | @cons _ _ _ _ T S3 w r =>
        cases w with
        | fz w =>
          cases w with
          | @tup a ws _ a1 a2 =>
            refine ⟨a, ws, rfl, SqT.of (tup_le fr.fle a1), by rw [a2.length]; exact hn, h1 P e σ ρ ρ' ws (ds.map .fz) vs os H Q hj (by rw [a2.length, List.length_map]) ?_ ef h⟩
            obtain ⟨S, eS, hS⟩ := Owns.join (owns_reps (H := H) a2) r
            exact ⟨F, S1, S, env, hS, by rw [eS]; exact fr, pin⟩
          | dic _ _ e => cases e
          | dit _ _ e => cases e
    · cases ef
  · rename_i xs
    split at ef
    · rename_i hn
      cases tmp with
      | @cons _ _ _ _ T S3 w r =>
        cases w with
        | @ntp a ws _ T2 a1 ag2 a2 =>
          refine ⟨a, ws, rfl, SqT.of a1, by rw [a2.len]; exact hn, h1 P e σ ρ ρ' ws xs vs os H Q hj a2.len ?_ ef h⟩
          obtain ⟨S, eS, hS⟩ := Owns.join a2 r
          refine ⟨F, S1, S, env, hS, ?_, pin⟩
          rw [eS]
          refine Sbp.fr fr (.of_count fun b => ?_)
          simp only [List.count_append, List.count_cons]
          omega
    · cases ef
  · cases ef
def sAsgM (f : QT) (m : M O) : MS := fun ρ => match m ρ with
  | .ok o ρ1 => match f o ρ1 with
    | some ρ2 => .next ρ2
    | none => .bad
  | .exc x ρ1 => .exc x ρ1
  | .bad => .bad
theorem tsm_asgM {g : TG} {f : QT} {J : List Nat} {te : TE} {m : M O} (hg : TGm k g f J) (h : TEm k E te m) : TSm k E J (tAsg te g) (sAsgM f m) := by
  intro P e σ ρ vs os H D o s g'
  refine h P e σ ρ vs os H _ s ?_
  unfold sAsgM at g'
  cases e1 : m ρ with
  | exc x ρ1 => rw [e1] at g'; exact g'.exc
  | bad => rw [e1] at g'; exact g'
  | ok x ρ1 =>
    rw [e1] at g'
    intro v H1 s1
    simp only at g'
    cases e2 : f x ρ1 with
    | none => rw [e2] at g'; exact g'.elim
    | some ρ2 =>
      rw [e2] at g'
      exact hg P e σ ρ1 ρ2 v x vs os H1 _ o s1 e2 fun σ' H' s2 => g' σ' H' s2
end
end FM
namespace FM
open PySem PySem.Spec L2 PyProof.Rows
/-! ### moving an entry out of one's own dict; words -/
section
variable {k : Kc} {E : XK}
def mMoveE (i : Nat) (z : Str) : M O := fun ρ => match qVar i ρ with
  | some (.ndc kvs) => match lk kvs (.inr z) with
    | some o => .ok o (ρ.set i (.ndc (setO kvs (.inr z) .dead)))
    | none => .bad
  | _ => .bad
theorem tem_moveE {i : Nat} {z : Str} : TEm k E (tOp (rIxU k.K) (tVar i) (tC (.str z))) (mMoveE i z) := by
  intro P e σ ρ vs os H Q s g
  unfold mMoveE at g
  split at g
  · rename_i kvs e0
    split at g
    · rename_i o e1
      obtain ⟨F, S1, S2, env, tmp, fr, pin⟩ := s
      obtain ⟨g1, g2⟩ := qVar_some e0
      obtain ⟨w, T, R, a1, a2, a3, a4⟩ := env.take g1 g2
      cases a2 with
      | @ndc d es _ T2 hd hk =>
        obtain ⟨v, T3, R3, k1, k2, k3, k4⟩ := hk.take e1
        refine ⟨.ref d, a1, .inr ⟨_, v, rfl, .inl ⟨_, .inr z, hd, rfl, k1.symm⟩, ?_⟩⟩
        obtain ⟨U, mU, q⟩ := a3.put (i := i) a1 (Own.ndc (k := k) (F := F) hd k3)
        rw [List.set_set] at q
        refine g v H ⟨F, U, T3 ++ S2, q, .cons k2 tmp, Sbp.fr fr (.of_count fun b => ?_), pin⟩
        have h1 := mU.count b
        have h2 := a4.count_eq b
        have h3 := k4.count_eq b
        simp only [List.count_append, List.count_cons, List.count_nil] at h1 h2 h3 ⊢
        omega
    · exact g.elim
  · exact g.elim
end
section
variable {ρ : List O} {Q : O → List O → Prop} {nx bk ct : List O → Prop} {rt : O → List O → Prop} {m : M O} {ml : M (List O)}
@[simp] theorem wM_disp {zs : List Str} : wM (mDisp zs ml ρ) Q = wM (ml ρ) fun xs ρ1 => zs.length = xs.length ∧ Q (.ndc (koZ zs xs)) ρ1 := by
  unfold mDisp
  cases e : ml ρ with
  | ok xs ρ1 => by_cases c : zs.length = xs.length <;> simp [c, wM]
  | _ => rfl
@[simp] theorem wM_moveE {i : Nat} {z : Str} : wM (mMoveE i z ρ) Q = ∃ kvs, qVar i ρ = some (.ndc kvs) ∧ ∃ o, lk kvs (.inr z) = some o ∧ Q o (ρ.set i (.ndc (setO kvs (.inr z) .dead))) := by
  unfold mMoveE
  cases e0 : qVar i ρ with
  | none => simp [wM]
  | some o0 =>
    cases o0 with
    | ndc kvs => cases e1 : lk kvs (.inr z) <;> simp [wM, e1]
    | _ => simp [wM]
@[simp] theorem wM_mtE {i : Nat} {z : Str} {f : List PD → List PD → Option (PD × List PD)} {qs : List O → Option (List O)} : wM (mMtE i z f qs ρ) Q = ∃ kvs, qVar i ρ = some (.ndc kvs) ∧ ∃ ds, lk kvs (.inr z) = some (.lst ds) ∧ ∃ xs, qs ρ = some xs ∧ ∃ zs, fzs xs = some zs ∧ ∃ d ds', f ds zs = some (d, ds') ∧ Q (.fz d) (ρ.set i (.ndc (setO kvs (.inr z) (.lst ds')))) := by
  unfold mMtE
  cases e0 : qVar i ρ with
  | none => simp [wM]
  | some o0 =>
    cases o0 with
    | ndc kvs =>
      cases e1 : lk kvs (.inr z) with
      | none => simp [wM, e1]
      | some o1 =>
        cases o1 with
        | lst ds =>
          cases e2 : qs ρ with
          | none => simp [wM, e1]
          | some xs =>
            cases e3 : fzs xs with
            | none => simp [wM, e1, e3]
            | some zs =>
              cases e4 : f ds zs with
              | none => simp [wM, e1, e3, e4]
              | some r =>
                obtain ⟨d, ds'⟩ := r
                simp [wM, e1, e3, e4]
                exact ⟨fun h => ⟨d, ds', ⟨rfl, rfl⟩, h⟩, fun ⟨_, _, ⟨e1, e2⟩, h⟩ => by rw [e1, e2]; exact h⟩
        | _ => simp [wM, e1]
    | _ => simp [wM]
@[simp] theorem wS_setE {i : Nat} {z : Str} : wS (sSetE i z m ρ) nx rt bk ct = wM (m ρ) fun o ρ1 => ∃ kvs, qVar i ρ1 = some (.ndc kvs) ∧ (kvs.map (·.1)).Nodup ∧ kvs.length < sizeLine ∧ nx (ρ1.set i (.ndc (putO kvs (.inr z) o))) := by
  unfold sSetE
  cases e : m ρ with
  | ok o ρ1 =>
    simp only [wM_ok]
    cases e0 : qVar i ρ1 with
    | none => simp [wS]
    | some o0 =>
      cases o0 with
      | ndc kvs =>
        by_cases c : (kvs.map (·.1)).Nodup ∧ kvs.length < sizeLine
        · simp only [if_pos c]
          apply propext
          constructor
          · intro h; exact ⟨kvs, rfl, c.1, c.2, h⟩
          · rintro ⟨kvs', e1, h1, h2, h3⟩
            cases e1
            exact h3
        · simp only [if_neg c]
          apply propext
          constructor
          · intro h; exact h.elim
          · rintro ⟨kvs', e1, h1, h2, _⟩
            cases e1
            exact (c ⟨h1, h2⟩).elim
      | _ => simp [wS]
  | _ => rfl
@[simp] theorem wS_asgM {f : QT} : wS (sAsgM f m ρ) nx rt bk ct = wM (m ρ) fun o ρ1 => ∃ ρ2, f o ρ1 = some ρ2 ∧ nx ρ2 := by
  unfold sAsgM
  cases e : m ρ with
  | ok o ρ1 => cases e2 : f o ρ1 <;> simp [wS, e2]
  | _ => rfl
@[simp] theorem oIx_ndc {kvs : List (Key × O)} {z : Str} : oIx (.ndc kvs) (.fz (.str z)) = lk kvs (.inr z) := rfl
@[simp] theorem lk_hit {o : O} {x : Key} {r : List (Key × O)} : lk ((x, o) :: r) x = some o := lk_pos rfl
@[simp] theorem setO_hit {o1 o : O} {x : Key} {r : List (Key × O)} : setO ((x, o1) :: r) x o = (x, o) :: r := setO_pos rfl
end
end FM
namespace FM
open PySem PySem.Spec L2 PyProof.Rows
/-! ### range of what has effects -/
section
variable {k : Kc} {E : XK}
noncomputable def iRng1M (m : M O) : M (List PD) := fun ρ => match m ρ with
  | .ok (.fz (.int j)) ρ1 => if big62 j then .ok (rngD 0 j.toNat) ρ1 else .bad
  | .ok _ _ => .bad
  | .exc x ρ1 => .exc x ρ1
  | .bad => .bad
theorem tim_rng1 {te : TE} {m : M O} (h : TEm k E te m) : TIm k E (iRng1 (tCons te tNil)) (iRng1M m) := by
  intro P e σ ρ vs os H R s g
  refine h P e σ ρ vs os H _ s ?_
  unfold iRng1M at g
  cases e1 : m ρ with
  | exc x ρ1 => rw [e1] at g; exact g
  | bad => rw [e1] at g; exact g
  | ok o ρ1 =>
    rw [e1] at g
    intro v H1 s1
    split at g
    · rename_i j ρ2 ee
      cases ee
      split at g
      · rename_i hz
        obtain ⟨F, S1, S2, s1⟩ := s1
        have ev := s1.top.1
        obtain ⟨_, s2⟩ := s1.top
        have hv : v = .int j := by
          cases ev with
          | int => rfl
          | dic _ _ e => cases e
          | dit _ _ e => cases e
        subst hv
        have b := big62_ok hz
        exact ⟨j, rfl, b.1, b.2, g _ F H1 S1 S2 s2 walkD_range⟩
      · exact g.elim
    · exact g.elim
    · rename_i hx; cases hx
    · rename_i hx; cases hx
@[simp] theorem wM_rng1M {m : M O} {ρ : List O} {Q : List PD → List O → Prop} : wM (iRng1M m ρ) Q = wM (m ρ) fun o ρ1 => ∃ j : Int, o = .fz (.int j) ∧ big62 j = true ∧ Q (rngD 0 j.toNat) ρ1 := by
  unfold iRng1M
  cases e : m ρ with
  | ok o ρ1 =>
    cases o with
    | fz d =>
      cases d with
      | int n => by_cases c : big62 n = true <;> simp [c, wM]
      | _ => simp [wM]
    | _ => simp [wM]
  | _ => rfl
end
end FM
namespace FM
open PySem PySem.Spec L2 PyProof.Rows
/-! ### list.remove of ints -/
section
variable {k : Kc}
def fstAt (i : Int) : List Int → Option Nat
  | [] => none
  | n :: r => if n = i then some 0 else (fstAt i r).map (· + 1)
theorem fstAt_is {i : Int} : ∀ {ns : List Int} {j : Nat}, fstAt i ns = some j → ns[j]? = some i ∧ ∀ m, m < j → ns[m]? ≠ some i
  | [], _, h => by cases h
  | n :: r, j, h => by
    unfold fstAt at h
    by_cases c : n = i
    · rw [if_pos c] at h
      cases h
      exact ⟨by simp [c], fun m hm => by omega⟩
    · rw [if_neg c] at h
      obtain ⟨j', e1, e2⟩ := Option.map_eq_some_iff.mp h
      subst e2
      obtain ⟨h1, h2⟩ := fstAt_is e1
      refine ⟨by simpa using h1, fun m hm => ?_⟩
      cases m with
      | zero => simpa using c
      | succ m =>
        have := h2 m (by omega)
        simpa using this
def fRem : List PD → List PD → Option (PD × List PD) := fun ds xs => match xs with
  | [.int i] => match intsD ds with
    | some ns => match fstAt i ns with
      | some j => some (.none, (ns.eraseIdx j).map .int)
      | none => none
    | none => none
  | _ => none
theorem reps_of_ints {K : Frag} {F : Hp} : ∀ (ns : List Int), Reps K F (ns.map V.int) (ns.map .int)
  | [] => .nil
  | n :: r => .cons (.int n) (reps_of_ints r)
theorem lm_rem : LstM k rRemI fRem := by
  intro F H a vs ds ws xs d ds' Q fl ha r rw' e g
  unfold fRem at e
  split at e
  · rename_i i
    split at e
    · rename_i ns en
      split at e
      · rename_i j hj
        cases e
        cases rw' with
        | cons w r2 =>
          cases r2
          have ew := (Vw.fz (k := k) (H := F) (S := []) w).int
          subst ew
          have e3 := intsD_eq en
          subst e3
          rw [reps_ints r] at ha
          obtain ⟨h1, h2⟩ := fstAt_is hj
          exact ⟨a, ns, i, j, rfl, rfl, ha, h1, h2, g _ _ (reps_of_ints _) .non⟩
      · cases e
    · cases e
  · cases e
@[simp] theorem fRem_i {ns : List Int} {i : Int} : fRem (ns.map .int) [.int i] = match fstAt i ns with
    | some j => some (.none, (ns.eraseIdx j).map .int)
    | none => none := by
  have e : intsD (ns.map PyData.int) = some ns := intsD_map ns
  show (match intsD (ns.map PyData.int) with | some ns => _ | none => _) = _
  rw [e]
end
end FM
namespace FM
open PySem PySem.Spec L2 PyProof.Rows
/-! ### instances of classes -/
def pfO (f : Str) (o : O) : List (Str × O) → List (Str × O)
  | [] => [(f, o)]
  | (g, x) :: r => if g = f then (g, o) :: r else (g, x) :: pfO f o r
theorem lu_pos {α : Type} {o : α} {y x : Str} {r : List (Str × α)} (e : y = x) : List.lookup x ((y, o) :: r) = some o := by
  subst e
  simp [List.lookup]
theorem lu_neg {α : Type} {o : α} {y x : Str} {r : List (Str × α)} (e : ¬ y = x) : List.lookup x ((y, o) :: r) = List.lookup x r := by
  have : (x == y) = false := beq_eq_false_iff_ne.mpr fun z => e z.symm
  simp only [List.lookup, this]
theorem pfO_pos {o1 o : O} {y x : Str} {r : List (Str × O)} (e : y = x) : pfO x o ((y, o1) :: r) = (y, o) :: r := if_pos e
theorem pfO_neg {o1 o : O} {y x : Str} {r : List (Str × O)} (e : ¬ y = x) : pfO x o ((y, o1) :: r) = (y, o1) :: pfO x o r := if_neg e
theorem pfO_pfO {x : Str} {o o' : O} : ∀ {fs : List (Str × O)}, pfO x o' (pfO x o fs) = pfO x o' fs
  | [] => if_pos rfl
  | (y, o1) :: r => by
    by_cases q : y = x
    · rw [pfO_pos q, pfO_pos q, pfO_pos q]
    · rw [pfO_neg q, pfO_neg q, pfO_neg q, pfO_pfO]
theorem OwnF.keys {k : Kc} {F H : Hp} : ∀ {vs : List (Str × V)} {os : List (Str × O)} {S : List Addr}, OwnF k F H vs os S → vs.map (·.1) = os.map (·.1)
  | _, _, _, .nil => rfl
  | _, _, _, .cons _ r => congrArg (_ :: ·) (OwnF.keys r)
theorem OwnF.none {k : Kc} {F H : Hp} {x : Str} : ∀ {vs : List (Str × V)} {os : List (Str × O)} {S : List Addr}, OwnF k F H vs os S → os.lookup x = none → vs.lookup x = none
  | _, _, _, .nil, _ => rfl
  | _, _, _, .cons (x := y) h r, e => by
    by_cases q : y = x
    · rw [lu_pos q] at e; cases e
    · rw [lu_neg q] at e ⊢; exact OwnF.none r e
theorem OwnF.take {k : Kc} {F H : Hp} {x : Str} : ∀ {vs : List (Str × V)} {os : List (Str × O)} {S : List Addr} {o : O}, OwnF k F H vs os S → os.lookup x = some o → ∃ v T R, vs.lookup x = some v ∧ Own k F H v o T ∧ OwnF k F H vs (pfO x .dead os) R ∧ (T ++ R).Perm S
  | _, _, _, _, .nil, e => by cases e
  | _, _, _, o, .cons (x := y) (v := v) (o := o1) (os := os) (S := S1) (T := S2) h r, e => by
    by_cases q : y = x
    · rw [lu_pos q] at e
      cases e
      refine ⟨v, S1, S2, lu_pos q, h, ?_, .refl _⟩
      rw [pfO_pos q]
      exact .cons (S := []) .dead r
    · rw [lu_neg q] at e
      obtain ⟨v', T, R, h1, h2, h3, h4⟩ := OwnF.take r e
      refine ⟨v', T, S1 ++ R, by rw [lu_neg q]; exact h1, h2, ?_, ?_⟩
      · rw [pfO_neg q]
        exact .cons h h3
      · have : (T ++ (S1 ++ R)).Perm (S1 ++ (T ++ R)) := by
          rw [← List.append_assoc, ← List.append_assoc]
          exact List.Perm.append_right R List.perm_append_comm
        exact this.trans (List.Perm.append_left S1 h4)
theorem putF_pos {v1 v : V} {y x : Str} {r : List (Str × V)} (e : y = x) : putF x v ((y, v1) :: r) = (y, v) :: r := if_pos e
theorem putF_neg {v1 v : V} {y x : Str} {r : List (Str × V)} (e : ¬ y = x) : putF x v ((y, v1) :: r) = (y, v1) :: putF x v r := if_neg e
theorem OwnF.put {k : Kc} {F H : Hp} {x : Str} {v : V} {o : O} {T : List Addr} (w : Own k F H v o T) : ∀ {vs : List (Str × V)} {os : List (Str × O)} {S : List Addr}, OwnF k F H vs os S → ∃ U, (∀ a, U.count a ≤ (T ++ S).count a) ∧ OwnF k F H (putF x v vs) (pfO x o os) U
  | _, _, _, .nil => ⟨T ++ [], fun a => by simp, .cons w .nil⟩
  | _, _, _, .cons (x := y) (v := v1) (o := o1) (os := os) (S := S1) (T := S2) h r => by
    by_cases q : y = x
    · refine ⟨T ++ S2, fun a => by simp only [List.count_append]; omega, ?_⟩
      rw [putF_pos q, pfO_pos q]
      exact .cons w r
    · obtain ⟨U, h1, h2⟩ := OwnF.put w r
      refine ⟨S1 ++ U, fun a => by have := h1 a; simp only [List.count_append] at this ⊢; omega, ?_⟩
      rw [putF_neg q, pfO_neg q]
      exact .cons h h2
theorem putF_same {x : Str} {v : V} : ∀ {vs : List (Str × V)}, vs.lookup x = some v → putF x v vs = vs
  | [], e => by cases e
  | (y, v1) :: r, e => by
    by_cases q : y = x
    · rw [lu_pos q] at e
      cases e
      exact putF_pos q
    · rw [lu_neg q] at e
      rw [putF_neg q, putF_same e]
section
variable {k : Kc} {E : XK}
/-- the slot's instance -/
theorem StW.insAt {P : List (Nat × V)} {e : Ent} {σ : L2.St} {ρ : List O} {vs : List V} {os : List O} {F H : Hp} {S1 S2 : List Addr} {i c : Nat} {fs : List (Str × O)} (s : StW k P e σ ρ vs os F H S1 S2) (e0 : qVar i ρ = some (.ins c fs)) :
    ∃ a dx ws, σ[i]? = some (some (.ref a)) ∧ H a = some (.ins (k.cl c) dx ws) ∧ ws.length = fs.length ∧ ∀ x, fs.lookup x = none → ws.lookup x = none := by
  obtain ⟨g1, g2⟩ := qVar_some e0
  obtain ⟨w, T, R, a1, a2, a3, a4⟩ := s.env.take g1 g2
  cases a2 with
  | @ins a dx _ ws _ T2 hd hk =>
    refine ⟨a, dx, ws, a1, hd, ?_, fun x e => hk.none e⟩
    have := congrArg List.length hk.keys
    simpa using this
/-- storing what stands on top into a field -/
theorem StW.fldPut {P : List (Nat × V)} {e : Ent} {σ : L2.St} {ρ : List O} {v : V} {o : O} {vs : List V} {os : List O} {F H : Hp} {S1 S2 : List Addr} {i c : Nat} {x : Str} {fs : List (Str × O)} (s : StW k P e σ ρ (v :: vs) (o :: os) F H S1 S2) (e0 : qVar i ρ = some (.ins c fs)) :
    ∃ a dx ws, σ[i]? = some (some (.ref a)) ∧ H a = some (.ins (k.cl c) dx ws) ∧ ws.length = fs.length ∧ ∃ U S3, StW k P e σ (ρ.set i (.ins c (pfO x o fs))) vs os F (upd H a (.ins (k.cl c) dx (putF x v ws))) U S3 := by
  obtain ⟨env, tmp, fr, pin⟩ := s
  obtain ⟨g1, g2⟩ := qVar_some e0
  obtain ⟨w, T, R, a1, a2, a3, a4⟩ := env.take g1 g2
  cases tmp with
  | @cons _ _ _ _ Tv S3 hv tmp =>
    cases a2 with
    | @ins a dx _ ws _ T2 hd hk =>
      have fr2 : Fr e F H (a :: (T2 ++ (Tv ++ (R ++ S3)))) := Sbp.fr fr (.of_count fun b => by
        have c2 := a4.count_eq b
        simp only [List.count_append, List.count_cons, List.count_nil] at c2 ⊢
        omega)
      have nd := List.nodup_cons.mp fr2.nd
      have keep : ∀ U : List Addr, (∀ b ∈ U, b ∈ T2 ++ (Tv ++ (R ++ S3))) → At U H (upd H a (.ins (k.cl c) dx (putF x v ws))) := fun U m b mb u z => by
        rw [upd_ne (fun q => nd.1 (by rw [← q]; exact m b mb))]
        exact z
      have fw := fr2.write (a := a) (o := .ins (k.cl c) dx (putF x v ws)) List.mem_cons_self (fun _ _ z => by cases z)
      have env3 := a3.mono (Same.refl F) (keep R fun b m => List.mem_append_right _ (List.mem_append_right _ (List.mem_append_left _ m)))
      have tmp3 := tmp.mono (Same.refl F) (keep S3 fun b m => List.mem_append_right _ (List.mem_append_right _ (List.mem_append_right _ m)))
      have hk3 := hk.mono (Same.refl F) (keep T2 fun b m => List.mem_append_left _ m)
      have hv3 := hv.mono (Same.refl F) (keep Tv fun b m => List.mem_append_right _ (List.mem_append_left _ m))
      obtain ⟨U3, m3, q3⟩ := OwnF.put (x := x) hv3 hk3
      have el : ws.length = fs.length := by
        have := congrArg List.length hk.keys
        simpa using this
      obtain ⟨U, mU, q⟩ := env3.put (i := i) a1 (Own.ins (k := k) (F := F) upd_same q3)
      rw [List.set_set] at q
      exact ⟨a, dx, ws, a1, hd, el, U, S3, q, tmp3, Sbp.fr fw (.of_count fun b => by
        have h1 := mU.count b
        have h2 := m3 b
        simp only [List.count_append, List.count_cons, List.count_nil] at h1 h2 ⊢
        omega), pin⟩
def sSetF (c i : Nat) (x : Str) (m : M O) : MS := fun ρ => match m ρ with
  | .ok o ρ1 => match qVar i ρ1 with
    | some (.ins c' fs) => if c' = c ∧ fs.length < 1000 then .next (ρ1.set i (.ins c (pfO x o fs))) else .bad
    | _ => .bad
  | .exc x ρ1 => .exc x ρ1
  | .bad => .bad
theorem tsm_setF {c i : Nat} {x : Str} {te : TE} {m : M O} (hc : Cls k.K (k.cl c)) (hn : NoAttr k.K (k.cl c) x) (h : TEm k E te m) : TSm k E [] (sFld k.K (tVar i) te x) (sSetF c i x m) := by
  intro P e σ ρ vs os H D o st g
  refine h P e σ ρ vs os H _ st ?_
  unfold sSetF at g
  cases e1 : m ρ with
  | exc x ρ1 => rw [e1] at g; exact g.exc
  | bad => rw [e1] at g; exact g
  | ok w ρ1 =>
    rw [e1] at g
    intro v H1 s1
    simp only at g
    obtain ⟨F, S1, S2, s1⟩ := s1
    split at g
    · rename_i c' fs e2
      split at g
      · rename_i hz
        obtain ⟨rfl, hz⟩ := hz
        obtain ⟨a, dx, ws, a1, a2, a3, U, S3, s5⟩ := s1.fldPut (x := x) e2
        exact ⟨.ref a, a1, a, _, dx, ws, rfl, a2, hc, hn, by rw [a3]; exact hz, g σ _ ⟨F, U, S3, s5⟩⟩
      · exact g.elim
    · exact g.elim
/-- a field that is read -/
def qFld (c i : Nat) (x : Str) : QE := fun ρ => match qVar i ρ with
  | some (.ins c' fs) => if c' = c then match fs.lookup x with
      | some .dead => none
      | r => r
    else none
  | _ => none
theorem qFld_some {c i : Nat} {x : Str} {ρ : List O} {o : O} (e : qFld c i x ρ = some o) : ∃ fs, qVar i ρ = some (.ins c fs) ∧ fs.lookup x = some o ∧ o ≠ .dead := by
  unfold qFld at e
  split at e
  · rename_i c' fs e0
    split at e
    · rename_i hc
      subst hc
      split at e
      · cases e
      · rename_i hn
        exact ⟨fs, e0, e, fun z => hn (by rw [e, z])⟩
    · cases e
  · cases e
theorem tev_fld {c i : Nat} {x : Str} (hc : Cls k.K (k.cl c)) (hn : NoAttr k.K (k.cl c) x) : TEv k (tFld k.K (tVar i) x) (qFld c i x) := by
  intro F H σ ρ S o Q q e h
  obtain ⟨fs, e0, e1, e2⟩ := qFld_some e
  obtain ⟨v, hv, T, mT, w⟩ := q.env.slot e0
  cases w with
  | @ins a dx _ ws _ T2 hd hk =>
    obtain ⟨v, T3, R, b1, b2, b3, b4⟩ := hk.take e1
    exact ⟨.ref a, hv, a, _, dx, ws, v, rfl, hd, hc, hn, b1, h v F H (Xt.refl q.fle) ⟨T3, fun z m => mT z (List.mem_cons_of_mem _ (b4.subset (List.mem_append_left _ m))), b2⟩⟩
/-- the field's list: where it stands, and what may be written there -/
theorem StW.fldAt {P : List (Nat × V)} {e : Ent} {σ : L2.St} {ρ : List O} {vs : List V} {os : List O} {F H : Hp} {S1 S2 : List Addr} {i c : Nat} {x : Str} {fs : List (Str × O)} {ds : List PD} (s : StW k P e σ ρ vs os F H S1 S2) (e0 : qVar i ρ = some (.ins c fs)) (e1 : fs.lookup x = some (.lst ds)) :
    ∃ a dx ws b us, σ[i]? = some (some (.ref a)) ∧ H a = some (.ins (k.cl c) dx ws) ∧ ws.lookup x = some (.ref b) ∧ H b = some (.lst us) ∧ Reps k.K F us ds ∧ ∀ us' ds', Reps k.K F us' ds' → ∃ U, StW k P e σ (ρ.set i (.ins c (pfO x (.lst ds') fs))) vs os F (upd H b (.lst us')) U S2 := by
  obtain ⟨env, tmp, fr, pin⟩ := s
  obtain ⟨g1, g2⟩ := qVar_some e0
  obtain ⟨v, T, R, a1, a2, a3, a4⟩ := env.take g1 g2
  cases a2 with
  | @ins d dx _ es _ T2 hd hk =>
    obtain ⟨v, T3, R3, k1, k2, k3, k4⟩ := hk.take e1
    cases k2 with
    | @lst b us _ h r =>
      have fr2 : Fr e F H (b :: d :: (R3 ++ (R ++ S2))) := Sbp.fr fr (.of_count fun z => by
        have c2 := a4.count_eq z
        have c3 := k4.count_eq z
        simp only [List.count_append, List.count_cons, List.count_nil] at c2 c3 ⊢
        omega)
      have ha : H b = some (.lst us) := by
        rcases h with h | ⟨ob, h⟩
        · exact h
        · exact (fr2.nofz b List.mem_cons_self ob _ h).elim
      refine ⟨d, dx, es, b, us, a1, hd, k1, ha, r, fun us' ds' r' => ?_⟩
      have nd := List.nodup_cons.mp fr2.nd
      have keep : ∀ U : List Addr, (∀ z ∈ U, z ∈ d :: (R3 ++ (R ++ S2))) → At U H (upd H b (.lst us')) := fun U m z mz u q => by
        rw [upd_ne (fun w => nd.1 (by rw [← w]; exact m z mz))]
        exact q
      have fw := fr2.write (a := b) (o := .lst us') List.mem_cons_self (fun _ _ z => by cases z)
      have env3 := a3.mono (Same.refl F) (keep R fun b m => List.mem_cons_of_mem _ (List.mem_append_right _ (List.mem_append_left _ m)))
      have tmp3 := tmp.mono (Same.refl F) (keep S2 fun b m => List.mem_cons_of_mem _ (List.mem_append_right _ (List.mem_append_right _ m)))
      have hk3 := k3.mono (Same.refl F) (keep R3 fun b m => List.mem_cons_of_mem _ (List.mem_append_left _ m))
      have hne : d ≠ b := fun q => nd.1 (by rw [← q]; exact List.mem_cons_self)
      obtain ⟨U3, m3, q3⟩ := hk3.put (x := x) (Own.lst (k := k) (F := F) (.inl upd_same) r')
      rw [pfO_pfO, putF_same k1] at q3
      obtain ⟨U, mU, q⟩ := env3.put (i := i) a1 (Own.ins (k := k) (F := F) (by rw [upd_ne hne]; exact hd) q3)
      rw [List.set_set] at q
      exact ⟨U, q, tmp3, Sbp.fr fw (.of_count fun z => by
        have h1 := mU.count z
        have h2 := m3 z
        simp only [List.count_append, List.count_cons, List.count_nil] at h1 h2 ⊢
        omega), pin⟩
/-- a method of a field's list, its arguments quiet -/
def mMtF (c i : Nat) (x : Str) (f : List PD → List PD → Option (PD × List PD)) (qs : List O → Option (List O)) : M O := fun ρ => match qVar i ρ with
  | some (.ins c' fs) => if c' = c then match fs.lookup x with
    | some (.lst ds) => match qs ρ with
      | some xs => match fzs xs with
        | some zs => match f ds zs with
          | some r => .ok (.fz r.1) (ρ.set i (.ins c (pfO x (.lst r.2) fs)))
          | none => .bad
        | none => .bad
      | none => .bad
    | _ => .bad
    else .bad
  | _ => .bad
theorem tem_mtF {c i : Nat} {x : Str} {r : V → List V → Hp → VK → Prop} {f : List PD → List PD → Option (PD × List PD)} {ta : TA} {qs : List O → Option (List O)} (hc : Cls k.K (k.cl c)) (hn : NoAttr k.K (k.cl c) x) (h : TAv k ta qs) (hr : LstM k r f) : TEm k E (tBM k.K "list" r (tFld k.K (tVar i) x) ta) (mMtF c i x f qs) := by
  intro P e σ ρ vs os H Q s g
  unfold mMtF at g
  split at g
  · rename_i c' fs e0
    split at g
    · rename_i ec
      subst ec
      split at g
      · rename_i ds e1
        split at g
        · rename_i xs e2
          split at g
          · rename_i zs e3
            cases e4 : f ds zs with
            | none => rw [e4] at g; exact g.elim
            | some rr =>
              rw [e4] at g
              obtain ⟨F, S1, S2, s⟩ := s
              obtain ⟨a, dx, ws, b, us, a1, a2, a3, a4, a5, a6⟩ := s.fldAt e0 e1
              refine ⟨.ref a, a1, a, _, dx, ws, .ref b, rfl, a2, hc, hn, a3, .inl ⟨rfl, us, .inl (.inl a4)⟩, h F H σ ρ S1 xs _ s.qs e2 fun us2 F1 H1 x1 w1 => ?_⟩
              have s2 := s.xt x1
              obtain ⟨a', dx', ws', b', us', c1, c2, c3, c4, c5, c6⟩ := s2.fldAt e0 e1
              rw [a1] at c1
              cases c1
              have hd := x1.ex _ _ a2
              rw [hd] at c2
              cases c2
              rw [a3] at c3
              cases c3
              have ru := w1.fzs e3
              refine hr F1 H1 b us' ds us2 zs rr.1 rr.2 Q s2.fr.fle c4 c5 ru e4 fun v vs' rv rd => ?_
              obtain ⟨U, s5⟩ := c6 vs' rr.2 rv
              exact g v _ ⟨F1, U, [] ++ S2, s5.env, .cons (.fz rd) s5.tmp, s5.fr, s5.pin⟩
          · exact g.elim
        · exact g.elim
      · exact g.elim
    · exact g.elim
  · exact g.elim
/-- a field of what is told, taken out -/
def mFldT (c : Nat) (x : Str) (m : M O) : M O := fun ρ => match m ρ with
  | .ok (.ins c' fs) ρ1 => if c' = c then match fs.lookup x with
      | some o => .ok o ρ1
      | none => .bad
    else .bad
  | .ok _ _ => .bad
  | .exc x ρ1 => .exc x ρ1
  | .bad => .bad
theorem tem_fldT {c : Nat} {x : Str} {te : TE} {m : M O} (hc : Cls k.K (k.cl c)) (hn : NoAttr k.K (k.cl c) x) (h : TEm k E te m) : TEm k E (tFld k.K te x) (mFldT c x m) := by
  intro P e σ ρ vs os H Q s g
  refine h P e σ ρ vs os H _ s ?_
  unfold mFldT at g
  cases e1 : m ρ with
  | exc x ρ1 => rw [e1] at g; exact g
  | bad => rw [e1] at g; exact g
  | ok o ρ1 =>
    rw [e1] at g
    intro v H1 s1
    cases o with
    | ins c' fs =>
      simp only at g
      split at g
      · rename_i ec
        subst ec
        split at g
        · rename_i o' e2
          obtain ⟨F, S1, S2, env, tmp, fr, pin⟩ := s1
          cases tmp with
          | @cons _ _ _ _ T U w r =>
            cases w with
            | @ins a dx _ ws _ T2 hd hk =>
              obtain ⟨v, T3, R, b1, b2, b3, b4⟩ := hk.take e2
              exact ⟨a, _, dx, ws, v, rfl, hd, hc, hn, b1, g v H1 ⟨F, S1, T3 ++ U, env, .cons b2 r, Sbp.fr fr (.of_count fun z => by
                have := b4.count_eq z
                simp only [List.count_append, List.count_cons] at this ⊢
                omega), pin⟩⟩
        · exact g.elim
      · exact g.elim
    | _ => exact g.elim
end
end FM
namespace FM
open PySem PySem.Spec L2 PyProof.Rows
/-! ### methods, new instances, instances frozen -/
structure MethG (P : Program) (w : World) (K : Frag) (mg : Str → Option Value) (base : Heap) (k : Nat) (C : Addr) (m : Str) (sp : Sp) : Prop where
  ex : ∃ (f : Addr) (fd : FuncData) (ps : List Str), FnG P w K mg base (CXg P w) k f fd ps sp ∧ Cls K C ∧ Meth K C m f ∧ Binds K fd ps []
structure MakG (P : Program) (w : World) (K : Frag) (mg : Str → Option Value) (base : Heap) (k : Nat) (x : Str) (C : Addr) (sp : Sp) : Prop where
  ex : ∃ (f : Addr) (fd : FuncData) (ps : List Str), FnG P w K mg base (CXg P w) k f fd ps sp ∧ Mk K C f ∧ mg x = some (.ref C) ∧ Binds K fd ps []
section
variable {X : Cx} {CX : CXT} {j k : Nat} {f C : Addr} {fd : FuncData} {ps : List Str} {sp : Sp} {E : XK} {x m : Str} {p pos apos : Pos} {e o : Expr} {es : List Expr} {ta : TE} {t : TA} {dvs : List V} {ds : List Value}
theorem run_makeG {pins : List (Addr × Obj)} {σ : L2.St} {H : Hp} {s : Shared} {Q : VK} {us : List Value} {vs : List V} (M : Mk X.K C f) (F : FnG X.prog X.w X.K X.mg X.base CX k f fd ps sp) (hr : RoomG (k + 1) X.A) (hb : Binds X.K fd ps ds) (hd : Vals dvs ds)
    (hx : Passes CX X E) (I : Inv X pins σ H s) (r : Vals vs us)
    (h : ∀ x dx, H x = none → H dx = none → dx ≠ x → sp (.ref x :: (vs ++ dvs)) (upd (upd H dx (.own x)) x (.ins C dx [])) (fun v H2 => v = .non ∧ Q (.ref x) H2) E) :
    wpAny (model X.prog X.w) X.A (call (.ref C) us) (EP X pins σ Q) X.xe s := by
  have hq := h (s.heap.objs.size + 1) s.heap.objs.size (I.hok.fresh (Nat.le_succ _)) (I.hok.fresh (Nat.le_refl _)) (Nat.ne_of_lt (Nat.lt_succ_self _))
  have J := Inv.made (C := C) I
  have q2 : Vals (V.ref (s.heap.objs.size + 1) :: (vs ++ dvs)) (Value.ref (s.heap.objs.size + 1) :: (us ++ ds)) := .cons rfl (r.append hd)
  have el : (Value.ref (s.heap.objs.size + 1) :: us ++ ds).length = ps.length := by
    have z := q2.length
    rw [F.len _ _ _ _ hq] at z
    exact z.symm
  have go := F.run _ X.stack _ _ ⟨Value.ref (s.heap.objs.size + 1) :: us, []⟩ (Value.ref (s.heap.objs.size + 1) :: (us ++ ds)) _ _ E (hr.make C us []) (J.env0.make C us []) (hb _ (Value.ref (s.heap.objs.size + 1) :: us) J.kIn el) q2 hq
  refine wpAny_call (make_map (f := f) I.kIn M.makes M.init (beq_iff_eq.mp M.fn) (codeAny_mono go fun z s' hz => ?_))
  cases z with
  | error e => exact hx pins σ _ _ e s' J hz
  | ok fl =>
    cases fl with
    | ret u =>
      obtain ⟨v, H', J2, rv, ev, g⟩ := J.after hz
      subst ev
      exact ⟨rv, ⟨V.ref (s.heap.objs.size + 1), H', J2, rfl, g⟩⟩
    | _ => exact hz.elim
theorem pe_new0 (c : MakG X.prog X.w X.K X.mg X.base k x C sp) (hr : RoomG j X.A) (hk : k + 1 ≤ j) (hx : Passes (CXg X.prog X.w) X E) (hg : Gl X x)
    (hdb : (x == ("__debug__" : Str)) = false := by decide) : PE X (.Call (.Name x p) [] [] pos) (tMake C sp [] E tNil) := by
  obtain ⟨f, fd, ps, F, M, hm, hb⟩ := c.ex
  refine ⟨fun pins s σ H Q I h => wpAny_Call_Name_kw (ld_glob I hg hm ?_ hdb)⟩
  exact PySem.W.callWith_K0 I.kIn M.kp (run_makeG (us := []) M F (hr.mono hk) hb .nil hx I .nil h)
theorem pe_new (c : MakG X.prog X.w X.K X.mg X.base k x C sp) (hr : RoomG j X.A) (hk : k + 1 ≤ j) (hx : Passes (CXg X.prog X.w) X E) (hg : Gl X x) (ha : PA X (e :: es) t)
    (hdb : (x == ("__debug__" : Str)) = false := by decide) (he : starEach (e :: es) X.env = (false, eval e X.env) :: starEach es X.env := by rfl) (hpl : (backTo pos (starEach es X.env)).any (·.1) = false := by rfl) :
    PE X (.Call (.Name x p) (e :: es) [] pos) (tMake C sp [] E t) := by
  obtain ⟨f, fd, ps, F, M, hm, hb⟩ := c.ex
  refine ⟨fun pins s σ H Q I h => wpAny_Call_Name_kw (ld_glob I hg hm ?_ hdb)⟩
  exact PySem.W.callWith_K (h₀ := X.base) I.ok.mod.kin M.kp (thn (ha.run pos pins s σ H _ I h) fun us s1 ⟨vs, H1, I1, r, q⟩ => ⟨I1.kIn, run_makeG M F (hr.mono hk) hb .nil hx I1 r q⟩) he hpl
/-- what a call of a method is, as PySem's own text reads it -/
def plOf (o : Expr) (env : Env) : Sem Bool := do return (← importBound o env).getD true
theorem mth_form {o : Expr} {m : Str} {apos pos : Pos} {args : List Expr} {env : Env} (hbase : attributeBase o m env (eval o env) = eval o env)
    (hform : methodCallForm (args.length + ([] : List Keyword).length) (backTo pos (starEach args env)) (backToKw pos (keywordEach [] env)) = true) (hline : (apos.endLine == pos.line) = true) :
    eval (.Call (.Attribute o m apos) args [] pos) env = (do
      let ov ← eval o env
      standAt apos.atName
      let (f, first) ← holding [ov] (getMethod ov m (plOf o env))
      callWith pos f first (backTo pos (starEach args env)) (backToKw pos (keywordEach [] env))) := by
  rw [arm_eval_Call, hbase]
  unfold methodCall calleeOf methodCallPos
  rw [hform, hline]
  rfl
theorem pe_mth (c : MethG X.prog X.w X.K X.mg X.base k C m sp) (hr : RoomG j X.A) (hk : k ≤ j) (hx : Passes (CXg X.prog X.w) X E) (he : PE X o ta) (ha : PA X (e :: es) t)
    (hst : starEach (e :: es) X.env = (false, eval e X.env) :: starEach es X.env := by rfl) (hpl : (backTo pos (starEach es X.env)).any (·.1) = false := by rfl)
    (hbase : attributeBase o m X.env (eval o X.env) = eval o X.env := by rfl)
    (hform : methodCallForm ((e :: es).length + ([] : List Keyword).length) (backTo pos (starEach (e :: es) X.env)) (backToKw pos (keywordEach [] X.env)) = true := by rfl)
    (hline : (apos.endLine == pos.line) = true := by rfl) :
    PE X (.Call (.Attribute o m apos) (e :: es) [] pos) (tMeth C m sp [] E ta t) := by
  obtain ⟨f, fd, ps, F, hc, hm, hb⟩ := c.ex
  exact pe_methG (pl := plOf o X.env) he hc hm F (hr.mono hk) hb .nil hx ha hst hpl (mth_form hbase hform hline)
theorem pe_mth0 (c : MethG X.prog X.w X.K X.mg X.base k C m sp) (hr : RoomG j X.A) (hk : k ≤ j) (hx : Passes (CXg X.prog X.w) X E) (he : PE X o ta)
    (hbase : attributeBase o m X.env (eval o X.env) = eval o X.env := by rfl)
    (hform : methodCallForm (([] : List Expr).length + ([] : List Keyword).length) (backTo pos (starEach [] X.env)) (backToKw pos (keywordEach [] X.env)) = true := by rfl)
    (hline : (apos.endLine == pos.line) = true := by rfl) :
    PE X (.Call (.Attribute o m apos) [] [] pos) (tMeth C m sp [] E ta tNil) := by
  obtain ⟨f, fd, ps, F, hc, hm, hb⟩ := c.ex
  exact pe_meth0G (pl := plOf o X.env) he hc hm F (hr.mono hk) hb .nil hx (mth_form hbase hform hline)
end
theorem MethG.bad {P : Program} {w : World} {K : Frag} {mg : Str → Option Value} {base : Heap} {m : Str} {f C : Addr} {fd : FuncData} {ps : List Str} {kc : Kc} {n k : Nat} {g : List O → FR} (hg : g = fun _ => .bad)
    (hc : Cls K C) (hm : Meth K C m f) (b : Binds K fd ps []) : MethG P w K mg base k C m (spM kc n g) := by
  subst hg
  exact ⟨f, fd, ps, ⟨fun vs H Q E h => let ⟨_, _, _, _, _, _, z⟩ := h; z.elim, fun A outer s H args us vs Q E _ _ _ _ h => let ⟨_, _, _, _, _, _, z⟩ := h; z.elim⟩, hc, hm, b⟩
section
variable {k : Kc} {E : XK}
/-- o.m(..), o a slot's instance -/
def mMeth (c i : Nat) (nm : Str) (f : List O → FR) (as : List (Option Nat)) (ma : M (List O)) : M O := fun ρ => match qVar i ρ with
  | some (.ins c' fs) => if c' = c ∧ fs.lookup nm = none then mCall f (some i :: as) (mRef i ma) ρ else .bad
  | _ => .bad
theorem tem_meth {c i : Nat} {nm : Str} {tl : TA} {as : List (Option Nat)} {ma : M (List O)} {n : Nat} {f : List O → FR} (hn : as.length + 1 = n) (h : TAm k E tl as ma) : TEm k E (tMeth (k.cl c) nm (spM k n f) [] E (tVar i) tl) (mMeth c i nm f as ma) := by
  intro P e σ ρ vs os H Q s g
  unfold mMeth at g
  split at g
  · rename_i c' fs e0
    split at g
    · rename_i hc
      obtain ⟨rfl, hl⟩ := hc
      obtain ⟨v, hv, z⟩ := tem_call (as := some i :: as) (f := f) hn (tam_ref (i := i) h) P e σ ρ vs os H Q s g
      obtain ⟨F, S1, S2, s⟩ := s
      obtain ⟨a, dx, ws, a1, a2, a3, a4⟩ := s.insAt e0
      rw [a1] at hv
      cases hv
      exact ⟨.ref a, a1, a, dx, ws, rfl, a2, a4 _ hl, z⟩
    · exact g.elim
  · exact g.elim
/-- C(..) -/
def mMake (c : Nat) (f : List O → FR) (ma : M (List O)) : M O := fun ρ => match ma ρ with
  | .ok xs ρ1 => match f (.ins c [] :: xs) with
    | .ret (.fz .none) (o :: _) => .ok o ρ1
    | _ => .bad
  | .exc x ρ1 => .exc x ρ1
  | .bad => .bad
theorem tem_make {c : Nat} {tl : TA} {as : List (Option Nat)} {ma : M (List O)} {n : Nat} {f : List O → FR} (hn : as.length + 1 = n) (h : TAm k E tl as ma) (hlen : ∀ ρ xs ρ', ma ρ = .ok xs ρ' → xs.length = as.length) : TEm k E (tMake (k.cl c) (spM k n f) [] E tl) (mMake c f ma) := by
  intro P e σ ρ vs os H Q s g
  refine h P e σ ρ vs os H _ s ?_
  unfold mMake at g
  cases e1 : ma ρ with
  | bad => rw [e1] at g; exact g
  | exc x ρ1 => rw [e1] at g; exact g
  | ok xs ρ1 =>
    rw [e1] at g
    simp only at g
    intro ws H1 s1 hl hr x dx hx hdx hne
    obtain ⟨F, S1, S2, s1⟩ := s1
    have X1 : Xt F H1 F (upd H1 dx (.own x)) := Xt.own s1.fr.fle hdx
    have hx2 : (upd H1 dx (.own x)) x = none := by rw [upd_ne (fun q => hne q.symm)]; exact hx
    have X2 : Xt F (upd H1 dx (.own x)) F (upd (upd H1 dx (.own x)) x (.ins (k.cl c) dx [])) := Xt.own X1.fle hx2
    have Xx := X1.trans X2
    have s2 := s1.push Xx (v := .ref x) (o := .ins c []) (T := [x]) (.ins upd_same .nil) ⟨List.nodup_cons.mpr ⟨List.not_mem_nil, .nil⟩, (fun a m => by rw [List.mem_singleton.mp m]; exact hx), (fun a m => by rw [List.mem_singleton.mp m]; exact fle_none s1.fr.fle hx), (fun a m o u z => by rw [List.mem_singleton.mp m, upd_same] at z; cases z)⟩
    obtain ⟨env, tmp, fr, pin⟩ := s2
    obtain ⟨A, B, eS, o1, o2⟩ := Owns.split (ws := .ref x :: ws) (xs := .ins c [] :: xs) (by simp [hl]) tmp
    have fr' : Fr e F _ (A ++ (S1 ++ B)) := Sbp.fr fr (.of_count fun a => by
      rw [eS]
      simp only [List.count_append]
      omega)
    rw [List.append_nil]
    refine ⟨by rw [List.length_cons, hl, hlen _ _ _ e1]; exact hn, F, .ins c [] :: xs, A, o1, (fr'.sub (List.sublist_append_left _ _)).refl, ?_⟩
    cases e3 : f (.ins c [] :: xs) with
    | bad => rw [e3] at g; exact g
    | exc _ _ => rw [e3] at g; exact g.elim
    | ret o outs =>
      rw [e3] at g
      intro v H' z
      obtain ⟨F', S', p1, p2⟩ := z
      obtain ⟨p3, p4⟩ := fr'.call p2
      cases o with
      | fz d =>
        cases d with
        | none =>
          cases outs with
          | nil => exact g.elim
          | cons o outs =>
            cases p1 with
            | @cons _ _ _ _ T U w r =>
              cases w with
              | fz w =>
                cases r with
                | @cons _ _ _ _ T2 U2 w2 r2 =>
                  refine ⟨by cases w <;> first | rfl | (rename_i e; cases e), g _ H' ⟨F', S1, T2 ++ B, env.mono p2.f0 p4.left, .cons w2 (o2.mono p2.f0 p4.right), Sbp.fr p3 (.of_count fun a => ?_), pin⟩⟩
                  simp only [List.nil_append, List.count_append]
                  omega
        | _ => exact g.elim
      | _ => exact g.elim
theorem nil_len (ρ : List O) (xs : List O) (ρ' : List O) (e : mNil ρ = .ok xs ρ') : xs.length = 0 := by
  cases e
  rfl
theorem cons_len {m : M O} {r : M (List O)} {n : Nat} (h : ∀ ρ xs ρ', r ρ = .ok xs ρ' → xs.length = n) (ρ : List O) (xs : List O) (ρ' : List O) (e : mCons m r ρ = .ok xs ρ') : xs.length = n + 1 := by
  unfold mCons at e
  split at e
  · split at e
    · rename_i e2
      cases e
      rw [List.length_cons, h _ _ _ e2]
    · cases e
    · cases e
  · cases e
  · cases e
/-! frozen fields -/
def frzFs : List (Str × O) → Option (List (Str × O))
  | [] => some []
  | (x, o) :: r => match toPD o, frzFs r with
    | some d, some r' => some ((x, .fz d) :: r')
    | _, _ => none
theorem OwnF.freeze {F H : Hp} {T : List Addr} (off : ∀ a ∈ T, F a = Option.none) : ∀ {vs : List (Str × V)} {os os' : List (Str × O)} {S : List Addr}, OwnF k F H vs os S → (∀ a ∈ S, a ∈ T) → frzFs os = some os' → OwnF k (over F H T) H vs os' []
  | _, _, _, _, .nil, _, e => by
    cases e
    exact .nil
  | _, _, os', _, .cons (o := o) (os := os) (S := S1) h r, m, e => by
    unfold frzFs at e
    cases e1 : toPD o with
    | none => rw [e1] at e; cases e
    | some d =>
      cases e2 : frzFs os with
      | none => rw [e1, e2] at e; cases e
      | some r' =>
        rw [e1, e2] at e
        cases e
        have q := own_fz (T := T) (over_sub off) (fun a u z rr => over_rd z rr) (fun a vs z rr => by rw [over_in z]; exact rr) (fun a z => m a (List.mem_append_left _ z)) h e1
        exact .cons (S := []) (T := []) (.fz q) (OwnF.freeze off r (fun a z => m a (List.mem_append_right _ z)) e2)
theorem StW.frzI {P : List (Nat × V)} {e : Ent} {σ : L2.St} {ρ : List O} {vs : List V} {os : List O} {F H : Hp} {S1 S2 : List Addr} {v : V} {c : Nat} {fs fs' : List (Str × O)} (s : StW k P e σ ρ (v :: vs) (.ins c fs :: os) F H S1 S2) (e1 : frzFs fs = some fs') :
    St k P e σ ρ (v :: vs) (.ins c fs' :: os) H := by
  obtain ⟨env, tmp, fr, pin⟩ := s
  cases tmp with
  | @cons _ _ _ _ T U w r =>
    cases w with
    | @ins a dx _ ws _ T2 hd hk =>
      have fr' : Fr e F H (T2 ++ ([a] ++ (S1 ++ U))) := Sbp.fr fr (.of_count fun z => by
        simp only [List.count_append, List.count_cons, List.count_nil]
        omega)
      have f2 := fr'.freeze
      have off : ∀ a ∈ T2, F a = none := fun a m => fr'.off a (List.mem_append_left _ m)
      refine ⟨over F H T2, S1, ([a] ++ U), env.mono (over_sub off) (At.of (Same.refl _)), .cons (S := [a]) (.ins hd (OwnF.freeze off hk (fun _ z => z) e1)) (r.mono (over_sub off) (At.of (Same.refl _))), Sbp.fr f2 (.of_count fun z => ?_), pin⟩
      simp only [List.count_append, List.count_cons, List.count_nil]
      omega
def frzIM (m : M O) : M O := fun ρ => match m ρ with
  | .ok (.ins c fs) ρ1 => match frzFs fs with
    | some fs' => .ok (.ins c fs') ρ1
    | none => .bad
  | .ok _ _ => .bad
  | .exc x ρ1 => .exc x ρ1
  | .bad => .bad
theorem tem_frzI {te : TE} {m : M O} (h : TEm k E te m) : TEm k E te (frzIM m) := by
  intro P e σ ρ vs os H Q s g
  refine h P e σ ρ vs os H Q s ?_
  unfold frzIM at g
  cases e1 : m ρ with
  | exc x ρ1 => rw [e1] at g; exact g
  | bad => rw [e1] at g; exact g
  | ok o ρ1 =>
    rw [e1] at g
    cases o with
    | ins c fs =>
      simp only at g
      cases e2 : frzFs fs with
      | none => rw [e2] at g; exact g.elim
      | some fs' =>
        rw [e2] at g
        intro v H' s'
        obtain ⟨F, S1, S2, s'⟩ := s'
        exact g v H' (s'.frzI e2)
    | _ => exact g.elim
def frzIO (i : Nat) (ρ : List O) : List O := match qVar i ρ with
  | some (.ins c fs) => match frzFs fs with
    | some fs' => ρ.set i (.ins c fs')
    | none => ρ
  | _ => ρ
theorem St.frzIS {P : List (Nat × V)} {e : Ent} {σ : L2.St} {ρ : List O} {vs : List V} {os : List O} {H : Hp} {i : Nat} (s : St k P e σ ρ vs os H) : St k P e σ (frzIO i ρ) vs os H := by
  unfold frzIO
  split
  · rename_i c fs e0
    split
    · rename_i fs' e1
      obtain ⟨F, S1, S2, env, tmp, fr, pin⟩ := s
      obtain ⟨g1, g2⟩ := qVar_some e0
      obtain ⟨v, T, R, a1, a2, a3, a4⟩ := env.take g1 g2
      have s2 : St k P e σ (ρ.set i .dead) (v :: vs) (.ins c fs' :: os) H := by
        refine StW.frzI ⟨a3, .cons a2 tmp, Sbp.fr fr (.of_count fun a => ?_), pin⟩ e1
        have c2 := a4.count_eq a
        simp only [List.count_append] at c2 ⊢
        omega
      obtain ⟨F2, U1, U2, env2, tmp2, fr2, pin2⟩ := s2
      cases tmp2 with
      | @cons _ _ _ _ T3 U3 w r =>
        obtain ⟨U, m, q⟩ := env2.put (i := i) a1 w
        rw [List.set_set] at q
        exact ⟨F2, U, U3, q, r, Sbp.fr fr2 (.of_count fun a => by
          have := m.count a
          simp only [List.count_append] at this ⊢
          omega), pin2⟩
    · exact s
  · exact s
def sGzI (i : Nat) (m : MS) : MS := fun ρ => m (frzIO i ρ)
theorem tsm_gzI {i : Nat} {A : List Nat} {t : TS} {a : MS} (h : TSm k E A t a) : TSm k E A t (sGzI i a) := fun P e σ ρ vs os H D o s g => h P e σ _ vs os H D o s.frzIS g
/-! a quiet call's field -/
def qCallF (c : Nat) (g : List O → FR) (x : Str) (qs : List O → Option (List O)) : QE := fun ρ => match qs ρ with
  | none => none
  | some os => match fzs os with
    | none => none
    | some ds => match g (ds.map .fz) with
      | .ret (.ins c' fs) _ => if c' = c then match fs.lookup x with
          | some o => (toPD o).map .fz
          | none => none
        else none
      | _ => none
theorem tev_callF {c n : Nat} {g : List O → FR} {x : Str} {tl : TA} {qs : List O → Option (List O)} (hc : Cls k.K (k.cl c)) (hno : NoAttr k.K (k.cl c) x) (hn : ∀ ρ os, qs ρ = some os → os.length = n) (h : TAv k tl qs) : TEv k (tFld k.K (tCall (spM k n g) [] E tl) x) (qCallF c g x qs) := by
  intro F H σ ρ S o Q q e hq
  unfold qCallF at e
  cases e1 : qs ρ with
  | none => rw [e1] at e; cases e
  | some os =>
    rw [e1] at e
    simp only at e
    cases e2 : fzs os with
    | none => rw [e2] at e; cases e
    | some ds =>
      rw [e2] at e
      simp only at e
      refine h F H σ ρ S os _ q e1 fun ws F1 H1 x1 w1 => ?_
      have r := w1.fzs e2
      rw [List.append_nil]
      refine ⟨by rw [w1.length]; exact hn _ _ e1, F1, ds.map .fz, [], r.owns, ⟨x1.fle, .nil, (fun a m => by cases m), (fun a m => by cases m), (fun a m => by cases m), (fun a m => by cases m), Same.refl _, fun a u z => .inl (by show F1 a ≠ none; rw [z]; simp), fun _ _ z _ => z, fun _ n => n⟩, ?_⟩
      split at e
      · rename_i c' fs outs e3
        split at e
        · rename_i ec
          subst ec
          split at e
          · rename_i o' e4
            obtain ⟨d, e5, e6⟩ := Option.map_eq_some_iff.mp e
            subst e6
            rw [e3]
            intro v H' z
            obtain ⟨F', S', p1, p2⟩ := z
            cases p1 with
            | @cons _ _ _ _ T U w r2 =>
              cases w with
              | @ins a dx _ ws2 _ T2 hd hk =>
                obtain ⟨v', T3, R3, b1, b2, b3, b4⟩ := hk.take e4
                have inS : ∀ z ∈ T3, z ∈ (a :: T2) ++ U := fun z m => List.mem_append_left _ (List.mem_cons_of_mem _ (b4.subset (List.mem_append_left _ m)))
                have off : ∀ z ∈ T3, F' z = none := fun z m => p2.off z (inS z m)
                refine ⟨a, _, dx, ws2, v', rfl, hd, hc, hno, b1, hq v' (over F' H' T3) H' (x1.trans ⟨fun a u z => p2.keep a u z (by simp), p2.f0.trans (over_sub off), over_le p2.fle, fun a u z => ?_⟩) (.fz (b2.freeze off e5))⟩
                have z2 := z
                rcases over_fresh z with z | z
                · rcases p2.fnew a u z with y | y | y
                  · cases w : F1 a with
                    | none => exact absurd w y
                    | some t =>
                      have := p2.f0 a t w
                      rw [z] at this
                      exact .inl (by rw [this])
                  · cases y
                  · exact .inr y
                · rcases p2.own a (inS a z) with y | y
                  · cases y
                  · exact .inr (.inl y)
          · cases e
        · cases e
      · cases e
/-! lists of one's own things in a field -/
def nstL : O → Option (List O)
  | .lst ds => some (ds.map .fz)
  | .nst os => some os
  | _ => none
theorem Own.nstL {F H : Hp} {v : V} {o : O} {S : List Addr} {ls : List O} (w : Own k F H v o S) (e : FM.nstL o = some ls) : ∃ b us T, v = .ref b ∧ Rd H b (.lst us) ∧ Owns k F H us ls T ∧ (∀ a, (b :: T).count a ≤ S.count a) := by
  cases w with
  | @lst a vs ds h r =>
    cases e
    exact ⟨a, vs, [], rfl, h, r.owns, fun _ => Nat.le_refl _⟩
  | @nst a vs os T h r =>
    cases e
    exact ⟨a, vs, T, rfl, h, r, fun _ => Nat.le_refl _⟩
  | _ => cases e
theorem Owns.snoc {F H : Hp} {v : V} {o : O} {T : List Addr} (w : Own k F H v o T) : ∀ {us : List V} {ls : List O} {S : List Addr}, Owns k F H us ls S → Owns k F H (us ++ [v]) (ls ++ [o]) (S ++ T)
  | _, _, _, .nil => by
    have := Owns.cons w .nil
    rw [List.append_nil] at this
    exact this
  | _, _, _, .cons (S := S1) (T := S2) h r => by
    rw [List.append_assoc]
    exact .cons h (Owns.snoc w r)
theorem StW.fldApp {P : List (Nat × V)} {e : Ent} {σ : L2.St} {ρ : List O} {v : V} {o l : O} {vs : List V} {os ls : List O} {F H : Hp} {S1 S2 : List Addr} {i c : Nat} {x : Str} {fs : List (Str × O)} (s : StW k P e σ ρ (v :: vs) (o :: os) F H S1 S2) (e0 : qVar i ρ = some (.ins c fs)) (e1 : fs.lookup x = some l) (e2 : nstL l = some ls) :
    ∃ a dx ws b us, σ[i]? = some (some (.ref a)) ∧ H a = some (.ins (k.cl c) dx ws) ∧ ws.lookup x = some (.ref b) ∧ H b = some (.lst us) ∧ us.length = ls.length ∧ ∃ U S3, StW k P e σ (ρ.set i (.ins c (pfO x (.nst (ls ++ [o])) fs))) vs os F (upd H b (.lst (us ++ [v]))) U S3 := by
  obtain ⟨env, tmp, fr, pin⟩ := s
  obtain ⟨g1, g2⟩ := qVar_some e0
  obtain ⟨w, T, R, a1, a2, a3, a4⟩ := env.take g1 g2
  cases tmp with
  | @cons _ _ _ _ Tv S3 hv tmp =>
    cases a2 with
    | @ins d dx _ es _ T2 hd hk =>
      obtain ⟨w, T3, R3, k1, k2, k3, k4⟩ := hk.take e1
      obtain ⟨b, us, T4, rfl, h, r, hT⟩ := k2.nstL e2
      have fr2 : Fr e F H (b :: d :: (T4 ++ (R3 ++ (Tv ++ (R ++ S3))))) := Sbp.fr fr (.of_count fun z => by
        have c2 := a4.count_eq z
        have c3 := k4.count_eq z
        have c4 := hT z
        simp only [List.count_append, List.count_cons, List.count_nil] at c2 c3 c4 ⊢
        omega)
      have ha : H b = some (.lst us) := by
        rcases h with h | ⟨ob, h⟩
        · exact h
        · exact (fr2.nofz b List.mem_cons_self ob _ h).elim
      have nd := List.nodup_cons.mp fr2.nd
      have keep : ∀ U : List Addr, (∀ z ∈ U, z ∈ d :: (T4 ++ (R3 ++ (Tv ++ (R ++ S3))))) → At U H (upd H b (.lst (us ++ [v]))) := fun U m z mz u q => by
        rw [upd_ne (fun w => nd.1 (by rw [← w]; exact m z mz))]
        exact q
      have fw := fr2.write (a := b) (o := .lst (us ++ [v])) List.mem_cons_self (fun _ _ z => by cases z)
      have mm : ∀ z, (z ∈ T4 ∨ z ∈ R3 ∨ z ∈ Tv ∨ z ∈ R ∨ z ∈ S3) → z ∈ d :: (T4 ++ (R3 ++ (Tv ++ (R ++ S3)))) := fun z m => by
        simp only [List.mem_cons, List.mem_append]
        exact .inr m
      have env3 := a3.mono (Same.refl F) (keep R fun z m => mm z (.inr (.inr (.inr (.inl m)))))
      have tmp3 := tmp.mono (Same.refl F) (keep S3 fun z m => mm z (.inr (.inr (.inr (.inr m)))))
      have hk3 := k3.mono (Same.refl F) (keep R3 fun z m => mm z (.inr (.inl m)))
      have hr3 := r.mono (Same.refl F) (keep T4 fun z m => mm z (.inl m))
      have hv3 := hv.mono (Same.refl F) (keep Tv fun z m => mm z (.inr (.inr (.inl m))))
      have hne : d ≠ b := fun q => nd.1 (by rw [← q]; exact List.mem_cons_self)
      have len := r.length
      obtain ⟨U3, m3, q3⟩ := hk3.put (x := x) (Own.nst (k := k) (F := F) (.inl upd_same) (Owns.snoc hv3 hr3))
      rw [pfO_pfO, putF_same k1] at q3
      obtain ⟨U, mU, q⟩ := env3.put (i := i) a1 (Own.ins (k := k) (F := F) (by rw [upd_ne hne]; exact hd) q3)
      rw [List.set_set] at q
      exact ⟨d, dx, es, b, us, a1, hd, k1, ha, len, U, S3, q, tmp3, Sbp.fr fw (.of_count fun z => by
        have h1 := mU.count z
        have h2 := m3 z
        simp only [List.count_append, List.count_cons, List.count_nil] at h1 h2 ⊢
        omega), pin⟩
theorem StW.fldNst {P : List (Nat × V)} {e : Ent} {σ : L2.St} {ρ : List O} {l : O} {vs : List V} {os ls : List O} {F H : Hp} {S1 S2 : List Addr} {i c : Nat} {x : Str} {fs : List (Str × O)} (s : StW k P e σ ρ vs os F H S1 S2) (e0 : qVar i ρ = some (.ins c fs)) (e1 : fs.lookup x = some l) (e2 : nstL l = some ls) :
    ∃ a dx ws b us, σ[i]? = some (some (.ref a)) ∧ H a = some (.ins (k.cl c) dx ws) ∧ ws.lookup x = some (.ref b) ∧ Rd H b (.lst us) := by
  obtain ⟨g1, g2⟩ := qVar_some e0
  obtain ⟨w, T, R, a1, a2, a3, a4⟩ := s.env.take g1 g2
  cases a2 with
  | @ins d dx _ es _ T2 hd hk =>
    obtain ⟨w, T3, R3, k1, k2, k3, k4⟩ := hk.take e1
    obtain ⟨b, us, T4, rfl, h, r, hT⟩ := k2.nstL e2
    exact ⟨d, dx, es, b, us, a1, hd, k1, h⟩
def mAppF (c i : Nat) (x : Str) (q : QE) : M O := fun ρ => match qVar i ρ with
  | some (.ins c' fs) => if c' = c then match fs.lookup x with
      | some l => match nstL l with
        | some ls => match q ρ with
          | some o => if ls.length < sizeLine then .ok (.fz .none) (ρ.set i (.ins c (pfO x (.nst (ls ++ [o])) fs))) else .bad
          | none => .bad
        | none => .bad
      | none => .bad
    else .bad
  | _ => .bad
theorem tem_appF {c i : Nat} {x : Str} {te : TE} {q : QE} (hc : Cls k.K (k.cl c)) (hn : NoAttr k.K (k.cl c) x) (h : TEn k te q) : TEm k E (tBM k.K "list" rAppend (tFld k.K (tVar i) x) (tCons te tNil)) (mAppF c i x q) := by
  intro P e σ ρ vs os H Q s g
  unfold mAppF at g
  split at g
  · rename_i c' fs e0
    split at g
    · rename_i ec
      subst ec
      split at g
      · rename_i l e1
        split at g
        · rename_i ls e2
          split at g
          · rename_i o e3
            split at g
            · rename_i hz
              obtain ⟨F, S1, S2, s⟩ := s
              obtain ⟨a, dx, ws, b, us, a1, a2, a3, a4⟩ := s.fldNst e0 e1 e2
              refine ⟨.ref a, a1, a, _, dx, ws, .ref b, rfl, a2, hc, hn, a3, .inl ⟨rfl, us, .inl a4⟩, h F H σ ρ S1 o _ s.qs e3 fun v F1 H1 T x1 w1 f1 => ?_⟩
              have s2 := s.push x1 w1 f1
              obtain ⟨a', dx', ws', b', us', c1, c2, c3, c4, c5, U, S3, c6⟩ := s2.fldApp (x := x) e0 e1 e2
              rw [a1] at c1
              cases c1
              have hd := x1.ex _ _ a2
              rw [hd] at c2
              cases c2
              rw [a3] at c3
              cases c3
              exact ⟨b, us', v, rfl, rfl, c4, by rw [c5]; exact hz, g .non _ ⟨F1, U, [] ++ S3, c6.env, .cons (.fz .non) c6.tmp, c6.fr, c6.pin⟩⟩
            · exact g.elim
          · exact g.elim
        · exact g.elim
      · exact g.elim
    · exact g.elim
  · exact g.elim
theorem Owns.takeAt {F H : Hp} : ∀ {us : List V} {ls : List O} {S : List Addr} {j : Nat} {o : O}, Owns k F H us ls S → ls[j]? = some o → ∃ v T R, us[j]? = some v ∧ Own k F H v o T ∧ Owns k F H us (ls.set j .dead) R ∧ (T ++ R).Perm S
  | _, _, _, _, _, .nil, e => by simp at e
  | _, _, _, 0, _, .cons (S := S1) (T := S2) h r, e => by
    have e' := Option.some.inj (by simpa using e)
    subst e'
    exact ⟨_, S1, S2, rfl, h, .cons (S := []) .dead r, .refl _⟩
  | _, _, _, j + 1, o, .cons (S := S1) (T := S2) h r, e => by
    obtain ⟨v, T, R, h1, h2, h3, h4⟩ := Owns.takeAt (j := j) r (by simpa using e)
    refine ⟨v, T, S1 ++ R, by simpa using h1, h2, .cons h h3, List.perm_iff_count.mpr fun a => ?_⟩
    have := h4.count_eq a
    simp only [List.count_append] at this ⊢
    omega
theorem Owns.putAt {F H : Hp} {v : V} {o : O} {T : List Addr} (w : Own k F H v o T) : ∀ {us : List V} {ls : List O} {S : List Addr} {j : Nat}, Owns k F H us ls S → us[j]? = some v → ∃ U, (∀ a, U.count a ≤ (T ++ S).count a) ∧ Owns k F H us (ls.set j o) U
  | _, _, _, _, .nil, e => by simp at e
  | _, _, _, 0, .cons (S := S1) (T := S2) h r, e => by
    have e' := Option.some.inj (by simpa using e)
    subst e'
    exact ⟨T ++ S2, fun a => by simp only [List.count_append]; omega, .cons w r⟩
  | _, _, _, j + 1, .cons (S := S1) (T := S2) h r, e => by
    obtain ⟨U, h1, h2⟩ := Owns.putAt (j := j) w r (by simpa using e)
    exact ⟨S1 ++ U, fun a => by have := h1 a; simp only [List.count_append] at this ⊢; omega, .cons h h2⟩
theorem StW.fldDic {P : List (Nat × V)} {e : Ent} {σ : L2.St} {ρ : List O} {vs : List V} {os ls : List O} {F H : Hp} {S1 S2 : List Addr} {i c j : Nat} {x : Str} {fs : List (Str × O)} {ds : List (Key × PD)} (s : StW k P e σ ρ vs os F H S1 S2) (e0 : qVar i ρ = some (.ins c fs)) (e1 : fs.lookup x = some (.nst ls)) (e2 : ls[j]? = some (.dic ds)) :
    ∃ a dx ws b us d es, σ[i]? = some (some (.ref a)) ∧ H a = some (.ins (k.cl c) dx ws) ∧ ws.lookup x = some (.ref b) ∧ Rd H b (.lst us) ∧ us[j]? = some (.ref d) ∧ H d = some (.dK es) ∧ RepK k.K F es ds ∧
      ∀ es' ds', RepK k.K F es' ds' → ∃ U, StW k P e σ (ρ.set i (.ins c (pfO x (.nst (ls.set j (.dic ds'))) fs))) vs os F (upd H d (.dK es')) U S2 := by
  obtain ⟨env, tmp, fr, pin⟩ := s
  obtain ⟨g1, g2⟩ := qVar_some e0
  obtain ⟨w, T, R, a1, a2, a3, a4⟩ := env.take g1 g2
  cases a2 with
  | @ins p dx _ fv _ T2 hd hk =>
    obtain ⟨w, T3, R3, k1, k2, k3, k4⟩ := hk.take e1
    cases k2 with
    | @nst b us _ T4 h r =>
      obtain ⟨w, T5, R5, n1, n2, n3, n4⟩ := r.takeAt e2
      cases n2 with
      | @dic d es _ hdd rd =>
        have fr2 : Fr e F H (d :: b :: p :: (R5 ++ (R3 ++ (R ++ S2)))) := Sbp.fr fr (.of_count fun z => by
          have c2 := a4.count_eq z
          have c3 := k4.count_eq z
          have c4 := n4.count_eq z
          simp only [List.count_append, List.count_cons, List.count_nil] at c2 c3 c4 ⊢
          omega)
        have ha : H d = some (.dK es) := by
          rcases hdd with h | ⟨ob, h⟩
          · exact h
          · exact (fr2.nofz d List.mem_cons_self ob _ h).elim
        refine ⟨p, dx, fv, b, us, d, es, a1, hd, k1, h, n1, ha, rd, fun es' ds' r' => ?_⟩
        have nd := List.nodup_cons.mp fr2.nd
        have keep : ∀ U : List Addr, (∀ z ∈ U, z ∈ b :: p :: (R5 ++ (R3 ++ (R ++ S2)))) → At U H (upd H d (.dK es')) := fun U m z mz u q => by
          rw [upd_ne (fun w => nd.1 (by rw [← w]; exact m z mz))]
          exact q
        have fw := fr2.write (a := d) (o := .dK es') List.mem_cons_self (fun _ _ z => by cases z)
        have mm : ∀ z, (z ∈ R5 ∨ z ∈ R3 ∨ z ∈ R ∨ z ∈ S2) → z ∈ b :: p :: (R5 ++ (R3 ++ (R ++ S2))) := fun z m => by
          simp only [List.mem_cons, List.mem_append]
          exact .inr (.inr m)
        have env3 := a3.mono (Same.refl F) (keep R fun z m => mm z (.inr (.inr (.inl m))))
        have tmp3 := tmp.mono (Same.refl F) (keep S2 fun z m => mm z (.inr (.inr (.inr m))))
        have hk3 := k3.mono (Same.refl F) (keep R3 fun z m => mm z (.inr (.inl m)))
        have hr3 := n3.mono (Same.refl F) (keep R5 fun z m => mm z (.inl m))
        have hne : p ≠ d := fun q => nd.1 (by rw [← q]; simp)
        have hnb : b ≠ d := fun q => nd.1 (by rw [← q]; simp)
        have hb2 : Rd (upd H d (.dK es')) b (.lst us) := by
          rcases h with h | ⟨ob, h⟩
          · exact .inl (by rw [upd_ne hnb]; exact h)
          · exact .inr ⟨ob, by rw [upd_ne hnb]; exact h⟩
        obtain ⟨U5, m5, q5⟩ := hr3.putAt (j := j) (Own.dic (k := k) (F := F) (.inl upd_same) r') n1
        rw [List.set_set] at q5
        obtain ⟨U3, m3, q3⟩ := hk3.put (x := x) (Own.nst (k := k) (F := F) hb2 q5)
        rw [pfO_pfO, putF_same k1] at q3
        obtain ⟨U, mU, q⟩ := env3.put (i := i) a1 (Own.ins (k := k) (F := F) (by rw [upd_ne hne]; exact hd) q3)
        rw [List.set_set] at q
        exact ⟨U, q, tmp3, Sbp.fr fw (.of_count fun z => by
          have h1 := mU.count z
          have h2 := m3 z
          have h3 := m5 z
          simp only [List.count_append, List.count_cons, List.count_nil] at h1 h2 h3 ⊢
          omega), pin⟩
/-- self.f[a][b] = d -/
def sSetN (c i : Nat) (x : Str) (qa qb : QE) (m : M O) : MS := fun ρ => match m ρ with
  | .ok (.fz d) ρ1 => match qVar i ρ1 with
    | some (.ins c' fs) => if c' = c then match fs.lookup x with
        | some (.nst ls) => match qa ρ1 with
          | some (.fz (.int j)) => match qb ρ1 with
            | some y => match keyO y with
              | some z => if 0 ≤ j then match ls[j.toNat]? with
                  | some (.dic ds) => if ds.length < sizeLine then .next (ρ1.set i (.ins c (pfO x (.nst (ls.set j.toNat (.dic (putD ds z d)))) fs))) else .bad
                  | _ => .bad
                else .bad
              | none => .bad
            | none => .bad
          | _ => .bad
        | _ => .bad
      else .bad
    | _ => .bad
  | .ok _ _ => .bad
  | .exc x ρ1 => .exc x ρ1
  | .bad => .bad
theorem tsm_setN {c i : Nat} {x : Str} {te ta tb : TE} {m : M O} {qa qb : QE} (hc : Cls k.K (k.cl c)) (hn : NoAttr k.K (k.cl c) x) (h : TEm k E te m) (ha : TEv k ta qa) (hb : TEv k tb qb) : TSm k E [] (tAsg te (gSub (tOp (rIxU k.K) (tFld k.K (tVar i) x) ta) tb rSetU)) (sSetN c i x qa qb m) := by
  intro P e σ ρ vs os H D o st g
  refine h P e σ ρ vs os H _ st ?_
  unfold sSetN at g
  cases e1 : m ρ with
  | exc x ρ1 => rw [e1] at g; exact g.exc
  | bad => rw [e1] at g; exact g
  | ok w ρ1 =>
    rw [e1] at g
    intro v H1 s1
    cases w with
    | fz d =>
      simp only at g
      obtain ⟨F, S1, S2, s1⟩ := s1
      split at g
      · rename_i c' fs e2
        split at g
        · rename_i ec
          subst ec
          split at g
          · rename_i ls e3
            split at g
            · rename_i j e4
              split at g
              · rename_i y e5
                split at g
                · rename_i z e6
                  split at g
                  · rename_i hj
                    split at g
                    · rename_i ds e7
                      split at g
                      · rename_i hz
                        obtain ⟨a, dx, ws, b, us, dd, es, a1, a2, a3, a4, a5, a6, a7, a8⟩ := s1.fldDic e2 e3 e7
                        refine ⟨.ref a, a1, a, _, dx, ws, .ref b, rfl, a2, hc, hn, a3, ha F H1 σ ρ1 S1 _ _ s1.qs e4 fun u F2 H2 x2 w2 => ?_⟩
                        have ew := w2.int
                        subst ew
                        have s2 := s1.xt x2
                        refine .inl (.inl ⟨b, us, j, .ref dd, rfl, rfl, .inl (rd_sub x2.ex a4), by rw [atI_nn hj]; exact a5, hb F2 H2 σ ρ1 S1 _ _ s2.qs e5 fun u3 F3 H3 x3 w3 => ?_⟩)
                        have s3 := s2.xt x3
                        obtain ⟨a', dx', ws', b', us', dd', es', b1, b2, b3, b4, b5, b6, b7, b8⟩ := s3.fldDic e2 e3 e7
                        rw [a1] at b1
                        cases b1
                        have hd := x3.ex _ _ (x2.ex _ _ a2)
                        rw [hd] at b2
                        cases b2
                        rw [a3] at b3
                        cases b3
                        have hu : us' = us := by
                          have r4 := rd_sub x3.ex (rd_sub x2.ex a4)
                          rcases r4 with q | ⟨_, q⟩ <;> rcases b4 with p | ⟨_, p⟩ <;> (rw [q] at p; cases p; try rfl)
                        rw [hu, a5] at b5
                        cases b5
                        have rd := s3.top.1
                        have ew := w3.keyO e6
                        subst ew
                        refine .inr ⟨dd, _, rfl, DPut.k b6 (by rw [b7.len']; exact hz), ?_⟩
                        obtain ⟨U, s5⟩ := b8 _ _ (b7.put rd)
                        obtain ⟨_, s6⟩ := s5.top
                        exact g σ _ ⟨F3, U, S2, s6⟩
                      · exact g.elim
                    · exact g.elim
                  · exact g.elim
                · exact g.elim
              · exact g.elim
            · exact g.elim
          · exact g.elim
        · exact g.elim
      · exact g.elim
    | _ => exact g.elim
end
end FM
namespace FM
open PySem PySem.Spec L2 PyProof.Rows
/-! ### sorted(set(xs)) of a list of ints -/
section
variable {P : Program} {w : World} {A : Around} {E : Value → Shared → Prop} {s : Shared}
abbrev emS (w : World) : Obj := { cls := .type "set", dict := none, data := .set #[] 0 (.fresh 0 0 (!w.params.followText "set-order")) }
theorem set_of_list {a : Addr} {xs : Array Value} (ks : List Int) {Q : Value → Shared → Prop} (z0 : A.handled = none) (al : s.heap.IsList a xs) (ai : IntsAre xs.toList ks) (ab : ks.length + 1 < scanBound)
    (go : ∀ (hp : Heap) (tk c : Nat), SetR w hp s.heap.objs.size (fun j => decide (j ∈ ks)) c → c ≤ ks.length → (∀ b o, s.heap.get? b = some o → hp.get? b = some o) → Q (.ref s.heap.objs.size) { s with heap := hp, toks := tk }) :
    wpAny (model P w) A (call (.type "set") [.ref a]) Q E s := by
  have sz : xs.size = ks.length := by
    have e := ai.length
    rwa [Array.length_toList] at e
  obtain ⟨c0, tl0, mro0⟩ := F.called_set.mro
  have made0 := F.called_set.made; have sub0 := F.called_set.sub
  refine wpAny_call (codeAny_of_tree ?_)
  show wpAny _ _ (callAny (.type "set") _) _ _ _
  refine wpAny_pure ⟨Code.quiet_builtin _ (by decide +kernel), codeAny_builtin F.entry_type_call ?_⟩
  rw [Around.under_plain (weight_type_call_type "set" [.ref a] []) rfl]
  have n1 := F.called_set.notType; have n2 := F.called_set.canCreate; have n3 := F.typeCall_set_1 (.ref a)
  repeat (any_goals (first | assumption | wp_step))

  refine codeAny_mono (code_set_led1 (.ref a) (E := E) (Q₁ := fun ob t => ob = .ref s.heap.objs.size ∧ t = { s with heap := s.heap.push { cls := .type "set", dict := none, data := .set #[] 0 (.fresh 0 0 (!w.params.followText "set-order")) } }) ⟨rfl, rfl⟩) fun r t hr => ?_
  cases r with
  | error e => exact hr
  | ok fl =>
    cases fl with
    | ret ob =>
      obtain ⟨rfl, rfl⟩ := hr
      have gS : (s.heap.push { cls := .type "set", dict := none, data := .set #[] 0 (.fresh 0 0 (!w.params.followText "set-order")) }).get? s.heap.objs.size = some { cls := .type "set", dict := none, data := .set #[] 0 (.fresh 0 0 (!w.params.followText "set-order")) } := Heap.get?_push_size _ rfl
      have tS : Shared.TypeIs { s with heap := s.heap.push { cls := .type "set", dict := none, data := .set #[] 0 (.fresh 0 0 (!w.params.followText "set-order")) } } (.ref s.heap.objs.size) "set" := ⟨_, gS, rfl⟩
      have i1 := F.called_set.init.lookup; have i2 := F.called_set.init.bind (.ref s.heap.objs.size)
      repeat (any_goals (first | assumption | wp_step))

      refine codeAny_mono (codeAny_call_builtin (R := wants (fun r t => r = .none ∧ ∃ hp tk c, t = { s with heap := hp, toks := tk } ∧ SetR w hp s.heap.objs.size (fun j => decide (j ∈ ks)) c ∧ c ≤ ks.length ∧ (∀ b o, s.heap.get? b = some o → hp.get? b = some o)) E)
        F.called_set.init.plain F.entry_set_init (check_set_init_1 tS ?_)) fun r3 t3 hr3 => ?_
      · obtain ⟨ol, g0, ec, nl, ed⟩ := al
        obtain ⟨k1, k2, k3, k4⟩ := ol
        simp only at ec ed
        subst ec; subst ed
        have g1 : (s.heap.push { cls := .type "set", dict := none, data := .set #[] 0 (.fresh 0 0 (!w.params.followText "set-order")) }).get? a = some { cls := .type "list", dict := k2, data := .seq xs nl, slots := k4 } := Heap.get?_push_of_some _ g0
        have u1 := F.sub_list_set; have u2 := F.sub_list_frozenset
        have u3 : (Value.type "list" == Value.type "dict") = false := by decide
        have al1 : (s.heap.push { cls := .type "set", dict := none, data := .set #[] 0 (.fresh 0 0 (!w.params.followText "set-order")) }).IsList a xs := ⟨_, g1, rfl, nl, rfl⟩
        unfold Builtin.«set.__init__» noKeywords Builtin.Frozenset.updateFrom
        generalize hPI : pyIter = PI
        wp_walk
        subst hPI

        refine wpAny_pyIter_list al1 (wpAny_bind (wpAny_runValue ?_))
        have lt : a < s.heap.objs.size := Heap.lt_size g0
        have z3 : A.in1.in1.in1.handled = none := by simp [z0]
        have ne1 : a ≠ (s.heap.push { cls := .type "set", dict := none, data := .set #[] 0 (.fresh 0 0 (!w.params.followText "set-order")) }).objs.size := by
          rw [Heap.size_push]; exact Nat.ne_of_lt (Nat.lt_succ_of_lt lt)
        have off : s.heap.objs.size ∉ [(s.heap.push { cls := .type "set", dict := none, data := .set #[] 0 (.fresh 0 0 (!w.params.followText "set-order")) }).objs.size, a] := by
          rw [Heap.size_push]
          intro m
          rcases List.mem_cons.mp m with e | m
          · exact absurd e (Nat.ne_of_lt (Nat.lt_succ_self _))
          · exact absurd (List.mem_singleton.mp m) (Nat.ne_of_gt lt)
        have val : ∀ (i : Nat) (v : Value), xs[i]? = some v → ∃ k t, ks[i]? = some k ∧ v = .int k t := fun i v e => by
          have hi : i < ks.length := by rw [← sz]; exact (Array.getElem?_eq_some_iff.mp e).1
          obtain ⟨t, e2⟩ := PyProof.Rows.IntsAre.int_at ai i v (by rw [Array.getElem?_toList]; exact e)
          exact ⟨ks[i], t, List.getElem?_eq_getElem hi, by rw [e2, List.getD_eq_getElem?_getD, List.getElem?_eq_getElem hi] <;> rfl⟩
        refine set_update_ints ((Walks.list z3 _ a ne1 xs).toS) s.heap.objs.size off ks sz ab val (xs.size - 0) 0 _ (by omega) (Nat.zero_le _) ⟨⟨_, Heap.get?_push_size _ rfl, rfl, rfl⟩, (al1.push _)⟩ ⟨0, Nat.le_refl 0, setR_new_at (Heap.get?_push_of_some _ gS)⟩ ?_
        intro t c mv hc R
        obtain ⟨hp, gg, dd, tk, oo⟩ := t
        have e1 : gg = s.gens := mv.gens
        have e2 : dd = s.drawn := mv.drawn
        have e3 : oo = s.os := mv.os
        subst e1; subst e2; subst e3
        show wpAny _ _ _ _ _ _
        refine wpAny_pure ?_
        show wpAny _ _ (ret Value.none) _ _ _
        rw [sz] at hc
        refine wpAny_pure ⟨rfl, hp, tk, c, rfl, R, hc, fun b o e => ?_⟩
        have b0 : b < s.heap.objs.size := Heap.lt_size e
        refine mv.heap b o (fun m => ?_) (Heap.get?_push_of_some _ (Heap.get?_push_of_some _ e))
        rw [Heap.size_push] at m
        rcases List.mem_cons.mp m with q | m
        · exact absurd q (Nat.ne_of_lt b0)
        · exact absurd (List.mem_singleton.mp m) (Nat.ne_of_lt (Nat.lt_succ_of_lt b0))
      · cases r3 with
        | error e => exact hr3
        | ok fl3 =>
          cases fl3 with
          | ret r =>
            obtain ⟨rfl, hp, tk, c, rfl, R, hc, kk⟩ := hr3
            repeat (any_goals (first | assumption | wp_step))
            exact go _ _ _ R hc kk
          | _ => exact hr3.elim
    | _ => exact hr.elim
end
section
variable {X : Cx}
/-- set(xs), xs a list of ints -/
def rSetI (w : World) (K : Frag) : List V → Hp → VK → Prop := fun vs H Q => ∃ (l : Addr) (ns : List Int), vs = [V.ref l] ∧ SqL K H l (ns.map V.int) ∧ ns.length ≤ 1000 ∧ ∀ p c, H p = none → c ≤ ns.length → Q (.ref p) (upd H p (SetO w p (fun j => decide (j ∈ ns)) c))
theorem cr_setI (hc : X.calm = true) : CallR X (.type "set") (rSetI X.w X.K) := by
  intro pins s σ H vs us Q I r h
  obtain ⟨l, ns, rfl, hq, hn, q⟩ := h
  obtain ⟨its, rv, pl, hz⟩ := I.list hq
  rw [Vals.ref1 r]
  refine set_of_list ns (I.ok.hd hc) pl.isList (by simpa using rv.ints) (by unfold scanBound; omega) fun hp tk c R hcn kk => ?_
  exact ⟨.ref _, _, I.laid (t' := tk) kk (Nat.le_refl _) (setO_new R), rfl, q _ _ (I.hok.fresh (Nat.le_refl _)) hcn⟩
def tSortSet (w : World) (K : Frag) (ta : TA) : TE := tCB (fun vs H Q => rSetI w K vs H Q) ta
end
end FM
namespace FM
open PySem PySem.Spec L2 PyProof.Rows
/-! ### sorted(d) of a dict with ints as keys, any number -/
def rSortDU : List V → Hp → VK → Prop := fun vs H Q => ∃ (a : Addr) (ks : List Int), vs = [.ref a] ∧ ((∃ kvs : List (Key × V), Rd H a (.dK kvs) ∧ kvs.map (·.1) = ks.map Sum.inl) ∨ (Rd H a (.dT []) ∧ ks = [])) ∧
    ∀ (ys : List Int) (p : Addr), ys.Perm ks → ys.Pairwise (· ≤ ·) → H p = none → Q (.ref p) (upd H p (.lst (ys.map V.int)))
section
variable {X : Cx}
theorem cr_sortDU (hcalm : X.calm = true) : CallR X (.builtin "sorted") rSortDU := by
  intro pins s σ H vs us Q I r q
  obtain ⟨a, ks, rfl, hd, q⟩ := q
  obtain ⟨u, eu, rx⟩ := vals1 r
  subst eu
  cases rx
  obtain ⟨lo, ws, hkeys, hw, dd⟩ : (a == sysModules) = false ∧ ∃ ws, ws.map (·.1) = ks.map Sum.inl ∧ ws.length ≤ sizeLine ∧ s.heap.DictOf (mixKind X.prog X.w) a ws := by
    rcases hd with ⟨kvs, hd, hks⟩ | ⟨hd, hk⟩
    · obtain ⟨z, lo, ws, rel, dd⟩ := dk_rd I.hok hd
      exact ⟨lo, ws, rel.keys.symm.trans hks, by rw [← rel.length]; exact z, dd⟩
    · subst hk
      obtain ⟨z, y, xs, rr, o, es, ep, h1, h2, h3, h4, h5⟩ := (show ObjOk X.prog X.w H s.heap a (.dT []) from rd_of I.hok hd)
      cases rr
      refine ⟨y, [], rfl, Nat.zero_le _, o, es, ep, h1, h2, h3, ?_, ?_, .nil⟩
      · have : es = #[] := by
          apply Array.ext'
          simpa using h4
        subst this
        intro e m
        simp at m
      · have : es.toList = [] := by simpa using h4
        rw [this]
        exact .nil
  obtain ⟨ep, at0⟩ := dd.dictAt
  have el : ws.length = ks.length := by
    have e := congrArg List.length hkeys
    rwa [List.length_map, List.length_map] at e
  refine Calls.call_function_entry PyProof.Rows.kind_sorted PyProof.Rows.plain_sorted PyProof.Rows.entry_sorted (PyProof.Rows.args_sorted1 _) ?_
  unfold Builtin.«sorted»
  refine wpAny_bind (m := checkCount "sorted" 1 1 _) (wpAny_pure (wpAny_bind (PySem.W.kdu_collect (A := X.A.in1) (PySem.W.kdl_dict (knd := mixKind X.prog X.w) (kvs := ws) (ep := ep) lo) (I.ok.hd hcalm) at0 hw fun hp tk acc kk ha => ?_)))
  have al : acc.toList.length = ks.length := by rw [Array.length_toList, ha.1, el]
  have ai : IntsAre acc.toList ks := ints_each al fun j v e => by
    obtain ⟨k, x, e1, e2⟩ := ha.2 j v (by rw [← Array.getElem?_toList]; exact e)
    have e3 : (ws.map (·.1))[j]? = some k := by rw [List.getElem?_map, e1]; rfl
    rw [hkeys, List.getElem?_map] at e3
    obtain ⟨y, e4, e5⟩ := Option.map_eq_some_iff.mp e3
    subst e5
    rcases keyIs_shape (show keyIs (Sum.inl y) v = true from e2) with ⟨i, t, ek, ev⟩ | ⟨z, t, ek, ev⟩
    · cases ek
      exact ⟨y, t, e4, ev⟩
    · cases ek
  have hz : acc.toList.length ≤ sizeLine := by rw [al, ← el]; exact hw
  have J : Inv X pins σ H { s with heap := hp, toks := tk } := I.kept kk
  refine wpAny_bind (wpAny_newList ?_ hz)
  have oL : (hp.push (seqObj "list" acc.toList.toArray 0)).get? hp.objs.size = some (seqObj "list" acc.toList.toArray 0) := Heap.get?_push_size _ rfl
  show wpAny _ _ _ _ _ { s with heap := hp.push (seqObj "list" acc.toList.toArray 0), toks := tk }
  refine wpAny_bind (wpAny_holding (wpAny_call_entry PyProof.Rows.slot_list_sort ⟨_, oL, rfl⟩ PyProof.Rows.entry_list_sort
    (SrtO.list_sort_ord (s := { s with heap := hp.push (seqObj "list" acc.toList.toArray 0), toks := tk }) SrtO.swo_int oL hz (fun h2 => SrtO.ints_sortable ai h2) fun out h1 h2 => ⟨_, rfl, ?_⟩) (PyProof.Rows.args_list_sort _)))
  obtain ⟨k1, k2, k3⟩ := SrtO.ints_out ai h1 h2
  obtain ⟨e', he'⟩ := PyProof.Rows.sortedHeap_at (vs := acc.toList) (out := out.toArray) oL
  have hlen : ((out.map SrtO.iv).map V.int).length ≤ sizeLine := by
    rw [List.length_map, k2.length_eq, ← al]
    exact hz
  refine wpAny_pure ⟨_, rfl, .ref hp.objs.size, upd H hp.objs.size (.lst ((out.map SrtO.iv).map V.int)), J.laid (t' := tk) (fun b u e => ?_) (Nat.le_refl _) ⟨hlen, out, e', vals_of_ints k1, he'⟩, rfl, q _ _ k2 k3 (J.hok.fresh (Nat.le_refl _))⟩
  have hb : b < hp.objs.size := Heap.lt_size e
  rw [PyProof.Rows.sortedHeap_old (Nat.ne_of_lt hb) (by rw [size_push']; exact Nat.lt_succ_of_lt hb)]
  exact Heap.get?_push_of_some _ e
end
def intK : List (Key × PD) → Option (List Int)
  | [] => some []
  | (.inl i, _) :: r => (intK r).map (i :: ·)
  | (.inr _, _) :: _ => none
def dkI : O → Option (List Int)
  | .fz (.dict []) => some []
  | x => match dicK x with
    | some ds => intK ds
    | none => none
theorem intK_eq : ∀ {ds : List (Key × PD)} {ks : List Int}, intK ds = some ks → ds.map (·.1) = ks.map Sum.inl
  | [], ks, e => by cases e; rfl
  | (.inl i, d) :: r, ks, e => by
    obtain ⟨z, e1, e2⟩ := Option.map_eq_some_iff.mp (show (intK r).map (i :: ·) = some ks from e)
    subst e2
    rw [List.map_cons, List.map_cons, intK_eq e1]
  | (.inr _, _) :: _, _, e => by cases e
theorem RepK.keys1 {K : Frag} {F : Hp} : ∀ {vs : List (Key × V)} {ds : List (Key × PD)}, RepK K F vs ds → vs.map (·.1) = ds.map (·.1)
  | _, _, .nil => rfl
  | _, _, .cons _ r => congrArg (_ :: ·) (RepK.keys1 r)
theorem Vw.dkI {k : Kc} {F H : Hp} {S : List Addr} {v : V} {o : O} {ks : List Int} (h : Vw k F H S v o) (s : FLe F H) (e : FM.dkI o = some ks) : ∃ a, v = .ref a ∧ ((∃ kvs : List (Key × V), Rd H a (.dK kvs) ∧ kvs.map (·.1) = ks.map Sum.inl) ∨ (Rd H a (.dT []) ∧ ks = [])) := by
  unfold FM.dkI at e
  split at e
  · cases e
    obtain ⟨T, _, q⟩ := h
    cases q with
    | fz r =>
      cases r with
      | @dic a kvs ds _ h1 h2 h3 =>
        have h3 := PyData.dict.inj h3
        cases ds with
        | nil =>
          cases h2
          exact ⟨_, rfl, .inl ⟨[], rd_le s h1, rfl⟩⟩
        | cons p r => cases h3
      | @dit a kvs ds _ h1 h2 h3 =>
        have h3 := PyData.dict.inj h3
        cases ds with
        | nil =>
          cases h2
          exact ⟨_, rfl, .inr ⟨rd_le s h1, rfl⟩⟩
        | cons p r => cases h3
  · split at e
    · rename_i ds e1
      obtain ⟨a, vs, rfl, h1, h2⟩ := h.dicK s e1
      exact ⟨a, rfl, .inl ⟨vs, h1, by rw [h2.keys1]; exact intK_eq e⟩⟩
    · cases e
def rSortedV (K : Frag) : List V → Hp → VK → Prop := fun vs H Q => rSortedU K vs H Q ∨ rSortDU vs H Q
theorem cr_sortedV {X : Cx} (hc : X.calm = true) (hu : X.A.units + 64 < cLine) : CallR X (.builtin "sorted") (rSortedV X.K) := by
  intro pins s σ H vs us Q I r h
  rcases h with h | h
  · exact cr_sortedU hu pins s σ H vs us Q I r h
  · exact cr_sortDU hc pins s σ H vs us Q I r h
def oSortV : List O → Option O
  | [x] => match oSortU [x] with
    | some o => some o
    | none => match dkI x with
      | some ks => some (.lst ((sortI ks).map .int))
      | none => none
  | _ => none
theorem cn_sortV {k : Kc} : CbN k (rSortedV k.K) oSortV := by
  intro F H S xs os o Q f off th ws e h
  unfold oSortV at e
  split at e
  · split at e
    · rename_i z e1
      cases e
      exact .inl (cn_sortU F H S xs _ o Q f off th ws e1 h)
    · cases ws with
      | cons w ws =>
        cases ws
        split at e
        · rename_i ks e2
          cases e
          obtain ⟨a, rfl, g⟩ := w.dkI f e2
          refine .inr ⟨a, ks, rfl, g, fun ys p hp hs hn => ?_⟩
          rw [sorted_unique (hp.trans (sortI_perm ks).symm) hs (sortI_sorted ks)]
          exact own_list f (ints_reps (sortI ks)) h p hn
        · cases e
  · cases e
theorem oSortV_eq {x : O} : oSortV [x] = match oSortU [x] with
    | some o => some o
    | none => match dkI x with
      | some ks => some (.lst ((sortI ks).map .int))
      | none => none := rfl
theorem oSortV_U {x : O} {o : O} (e : oSortU [x] = some o) : oSortV [x] = some o := by
  rw [oSortV_eq, e]
/-! ### sorted(set(xs)) -/
def nubI : List Int → List Int
  | [] => []
  | n :: r => if n ∈ r then nubI r else n :: nubI r
theorem nubI_mem {x : Int} : ∀ {l : List Int}, x ∈ nubI l ↔ x ∈ l
  | [] => Iff.rfl
  | n :: r => by
    unfold nubI
    split
    · rename_i h
      rw [nubI_mem, List.mem_cons]
      exact ⟨.inr, fun z => z.elim (fun e => e ▸ h) id⟩
    · rw [List.mem_cons, List.mem_cons, nubI_mem]
theorem nubI_nodup : ∀ {l : List Int}, (nubI l).Nodup
  | [] => .nil
  | n :: r => by
    unfold nubI
    split
    · exact nubI_nodup
    · rename_i h
      exact List.nodup_cons.mpr ⟨fun m => h (nubI_mem.mp m), nubI_nodup⟩
def srtU (ns : List Int) : List Int := sortI (nubI ns)
theorem perm_of_mem : ∀ {l r : List Int}, l.Nodup → r.Nodup → (∀ x, x ∈ l ↔ x ∈ r) → l.Perm r
  | [], r, _, _, h => by
    cases r with
    | nil => exact .refl _
    | cons b r => exact absurd ((h b).mpr List.mem_cons_self) (by simp)
  | a :: l, r, h1, h2, h => by
    have ma : a ∈ r := (h a).mp List.mem_cons_self
    have n1 := List.nodup_cons.mp h1
    refine (List.Perm.cons a (perm_of_mem n1.2 (h2.erase a) fun x => ?_)).trans (List.perm_cons_erase ma).symm
    rw [h2.mem_erase_iff]
    constructor
    · intro m
      exact ⟨fun e => n1.1 (e ▸ m), (h x).mp (List.mem_cons_of_mem _ m)⟩
    · rintro ⟨ne, m⟩
      rcases List.mem_cons.mp ((h x).mpr m) with e | m
      · exact absurd e ne
      · exact m
theorem srtU_is {ns xs : List Int} (h1 : xs.Pairwise (· < ·)) (h2 : ∀ k, k ∈ xs ↔ k ∈ ns) : xs = srtU ns := by
  have nd : xs.Nodup := h1.imp fun h e => by omega
  refine sorted_unique ((perm_of_mem nd nubI_nodup fun x => (h2 x).trans nubI_mem.symm).trans (sortI_perm _).symm) (h1.imp fun h => by omega) (sortI_sorted _)
def qSortSet (q : QE) : QE := fun ρ => match q ρ with
  | none => none
  | some x => match seqL x with
    | some ds => match intsD ds with
      | some ns => if ns.length < 64 then some (.lst ((srtU ns).map .int)) else none
      | none => none
    | none => none
theorem ten_sortSet {k : Kc} {w : World} {te : TE} {q : QE} (h : TEv k te q) : TEn k (tCB (rSortedSet w) (tCons (tCB (rSetI w k.K) (tCons te tNil)) tNil)) (qSortSet q) := by
  intro F H σ ρ S o Q qs e g
  unfold qSortSet at e
  cases e1 : q ρ with
  | none => rw [e1] at e; cases e
  | some x =>
    rw [e1] at e
    simp only at e
    split at e
    · rename_i ds es
      split at e
      · rename_i ns en
        split at e
        · rename_i hz
          cases e
          refine h F H σ ρ S x _ qs e1 fun v F1 H1 x1 w1 => ?_
          obtain ⟨a, vs, rfl, g1, g2⟩ := w1.seqL x1.fle es
          have e3 := intsD_eq en
          subst e3
          rw [reps_ints g2] at g1
          refine ⟨a, ns, rfl, g1, by omega, fun p c hp hc => ?_⟩
          have x2 : Xt F1 H1 F1 (upd H1 p (SetO w p (fun j => decide (j ∈ ns)) c)) := Xt.own x1.fle hp
          refine ⟨p, _, c, rfl, upd_same, by omega, fun xs p2 hs hm hl hn => ?_⟩
          have ex : xs = srtU ns := srtU_is hs fun k => by simpa using hm k
          subst ex
          refine own_list x2.fle (ints_reps (srtU ns)) (fun v F' H' T x3 w3 f3 => g v F' H' T ((x1.trans x2).trans x3) w3 (f3.back (x1.trans x2))) p2 hn
        · cases e
      · cases e
    · cases e
end FM
namespace FM
open PySem PySem.Spec L2 PyProof.Rows
/-! ### simp words for instances -/
section
variable {ρ : List O} {Q : O → List O → Prop} {nx bk ct : List O → Prop} {rt : O → List O → Prop} {q : QE} {m : M O} {a : MS} {ml : M (List O)} {c i : Nat} {x : Str}
@[simp] theorem qFld_eq : qFld c i x ρ = match qVar i ρ with
    | some (.ins c' fs) => if c' = c then match fs.lookup x with
        | some .dead => none
        | r => r
      else none
    | _ => none := rfl
@[simp] theorem wM_meth {f : List O → FR} {nm : Str} {as : List (Option Nat)} : wM (mMeth c i nm f as ml ρ) Q = ∃ fs, qVar i ρ = some (.ins c fs) ∧ fs.lookup nm = none ∧ wM (mCall f (some i :: as) (mRef i ml) ρ) Q := by
  apply propext
  unfold mMeth
  constructor
  · intro h
    split at h
    · rename_i c' fs e
      split at h
      · rename_i hc
        obtain ⟨rfl, hc⟩ := hc
        exact ⟨fs, e, hc, h⟩
      · exact h.elim
    · exact h.elim
  · rintro ⟨fs, e, h1, h⟩
    rw [e]
    show wM (if c = c ∧ List.lookup nm fs = none then mCall f (some i :: as) (mRef i ml) ρ else .bad) Q
    rw [if_pos ⟨rfl, h1⟩]
    exact h
@[simp] theorem wM_make {f : List O → FR} : wM (mMake c f ml ρ) Q = wM (ml ρ) fun xs ρ1 => wF (f (.ins c [] :: xs)) fun o outs => o = .fz .none ∧ ∃ o1 r, outs = o1 :: r ∧ Q o1 ρ1 := by
  unfold mMake
  cases e : ml ρ with
  | ok xs ρ1 =>
    simp only [wM_ok]
    cases e2 : f (.ins c [] :: xs) with
    | ret o outs =>
      cases o with
      | fz d =>
        cases d with
        | none => cases outs <;> simp [wM, wF]
        | _ => simp [wM, wF]
      | _ => simp [wM, wF]
    | _ => simp [wM, wF]
  | _ => rfl
@[simp] theorem wM_mtF {f : List PD → List PD → Option (PD × List PD)} {qs : List O → Option (List O)} : wM (mMtF c i x f qs ρ) Q = ∃ fs, qVar i ρ = some (.ins c fs) ∧ ∃ ds, fs.lookup x = some (.lst ds) ∧ ∃ xs, qs ρ = some xs ∧ ∃ zs, fzs xs = some zs ∧ ∃ d ds', f ds zs = some (d, ds') ∧ Q (.fz d) (ρ.set i (.ins c (pfO x (.lst ds') fs))) := by
  unfold mMtF
  cases e : qVar i ρ with
  | none => simp [wM]
  | some o =>
    cases o with
    | ins c' fs =>
      by_cases h1 : c' = c
      · subst h1
        cases h2 : fs.lookup x with
        | none => simp [h2, wM]
        | some o =>
          cases o with
          | lst ds =>
            cases h3 : qs ρ with
            | none => simp [h2, wM]
            | some xs =>
              cases h4 : fzs xs with
              | none => simp [h2, h4, wM]
              | some zs =>
                cases h5 : f ds zs with
                | none => simp [h2, h4, h5, wM]
                | some r =>
                  obtain ⟨d, ds'⟩ := r
                  simp [h2, h4, h5, wM]
                  exact ⟨fun h => ⟨d, ds', ⟨rfl, rfl⟩, h⟩, fun ⟨_, _, ⟨e1, e2⟩, h⟩ => by rw [e1, e2]; exact h⟩
          | _ => simp [h2, wM]
      · simp [h1, wM]
    | _ => simp [wM]
@[simp] theorem wM_appF : wM (mAppF c i x q ρ) Q = ∃ fs, qVar i ρ = some (.ins c fs) ∧ ∃ l, fs.lookup x = some l ∧ ∃ ls, nstL l = some ls ∧ ∃ o, q ρ = some o ∧ ls.length < sizeLine ∧ Q (.fz .none) (ρ.set i (.ins c (pfO x (.nst (ls ++ [o])) fs))) := by
  unfold mAppF
  cases e : qVar i ρ with
  | none => simp [wM]
  | some o =>
    cases o with
    | ins c' fs =>
      by_cases h1 : c' = c
      · subst h1
        cases h2 : fs.lookup x with
        | none => simp [h2, wM]
        | some l =>
          cases h3 : nstL l with
          | none => simp [h2, h3, wM]
          | some ls =>
            cases h4 : q ρ with
            | none => simp [h2, h3, wM]
            | some o => by_cases h5 : ls.length < sizeLine <;> simp [h2, h3, h5, wM]
      · simp [h1, wM]
    | _ => simp [wM]
@[simp] theorem wM_fldT : wM (mFldT c x m ρ) Q = wM (m ρ) fun o ρ1 => ∃ fs, o = .ins c fs ∧ ∃ o', fs.lookup x = some o' ∧ Q o' ρ1 := by
  unfold mFldT
  cases e : m ρ with
  | ok o ρ1 =>
    cases o with
    | ins c' fs =>
      by_cases h1 : c' = c
      · subst h1
        cases h2 : fs.lookup x <;> simp [h2, wM]
      · simp [h1, wM]
    | _ => simp [wM]
  | _ => rfl
@[simp] theorem wM_frzI : wM (frzIM m ρ) Q = wM (m ρ) fun o ρ1 => ∃ c fs, o = .ins c fs ∧ ∃ fs', frzFs fs = some fs' ∧ Q (.ins c fs') ρ1 := by
  apply propext
  unfold frzIM
  cases e : m ρ with
  | ok o ρ1 =>
    cases o with
    | ins c' fs =>
      simp only [wM_ok]
      constructor
      · intro h
        cases h2 : frzFs fs with
        | none => rw [h2] at h; exact h.elim
        | some fs' => rw [h2] at h; exact ⟨c', fs, rfl, fs', h2, h⟩
      · rintro ⟨c, fs2, e2, fs', h2, h⟩
        cases e2
        rw [h2]
        exact h
    | _ => simp [wM]
  | _ => exact Iff.rfl
@[simp] theorem wS_setF : wS (sSetF c i x m ρ) nx rt bk ct = wM (m ρ) fun o ρ1 => ∃ fs, qVar i ρ1 = some (.ins c fs) ∧ fs.length < 1000 ∧ nx (ρ1.set i (.ins c (pfO x o fs))) := by
  unfold sSetF
  cases e : m ρ with
  | ok o ρ1 =>
    simp only [wM_ok]
    cases e2 : qVar i ρ1 with
    | none => simp [wS]
    | some z =>
      cases z with
      | ins c' fs =>
        by_cases h1 : c' = c
        · subst h1
          by_cases h2 : fs.length < 1000 <;> simp [h2, wS]
        · simp [h1, wS]
      | _ => simp [wS]
  | _ => rfl
@[simp] theorem wS_gzI : wS (sGzI i a ρ) nx rt bk ct = wS (a (frzIO i ρ)) nx rt bk ct := rfl
theorem wS_setN {qa qb : QE} {d : PD} {fs : List (Str × O)} {ls : List O} {j : Nat} {y : O} {z : Key} {ds : List (Key × PD)} {ρ1 : List O} (h0 : m ρ = .ok (.fz d) ρ1) (h1 : qVar i ρ1 = some (.ins c fs)) (h2 : fs.lookup x = some (.nst ls)) (h3 : qa ρ1 = some (.fz (.int (j : Int)))) (h4 : qb ρ1 = some y) (h5 : keyO y = some z) (h6 : ls[j]? = some (.dic ds)) (h7 : ds.length < sizeLine)
    (g : nx (ρ1.set i (.ins c (pfO x (.nst (ls.set j (.dic (putD ds z d)))) fs)))) : wS (sSetN c i x qa qb m ρ) nx rt bk ct := by
  unfold sSetN
  simp [h0, h1, h2, h3, h4, h5, h6, h7]
  exact g
end
@[simp] theorem frzFs_nil : frzFs [] = some [] := rfl
theorem qSortSet_i {q : QE} {ρ : List O} {ns : List Int} (e : q ρ = some (.fz (.list (ns.map .int)))) (h : ns.length < 64) : qSortSet q ρ = some (.lst ((srtU ns).map .int)) := by
  have e2 : intsD (ns.map PyData.int) = some ns := intsD_map ns
  unfold qSortSet
  rw [e]
  simp only [seqL]
  rw [e2]
  simp only
  rw [if_pos h]
theorem oSortV_i {ns : List Int} : oSortV [.fz (.list (ns.map .int))] = some (.lst ((sortI ns).map .int)) := by
  have e2 : intsD (ns.map PyData.int) = some ns := intsD_map ns
  apply oSortV_U
  show (match intsD (ns.map PyData.int) with
    | some ns => some (O.lst ((sortI ns).map .int))
    | none => if sortC (ns.map PyData.int) then some (O.lst (sortD (ns.map PyData.int))) else none) = _
  rw [e2]
theorem oSortV_d {ks : List Int} {x : O} (e1 : oSortU [x] = none) (e2 : dkI x = some ks) : oSortV [x] = some (.lst ((sortI ks).map .int)) := by
  rw [oSortV_eq, e1]
  simp only
  rw [e2]
/-! ### walks of ints: what is kept -/
theorem lcGo_ints {f : QG} {c : List O → Option Bool} {e : QE} {ρ : List O} {p : Int → Bool} {ns : List Int} (h : ∀ n ∈ ns, ∃ ρ1, f (.int n) ρ = some ρ1 ∧ c ρ1 = some (p n) ∧ (p n = true → e ρ1 = some (.fz (.int n)))) : lcGo f c e ρ (ns.map .int) = some ((ns.filter p).map .int) := by
  induction ns with
  | nil => rfl
  | cons n r ih =>
    obtain ⟨ρ1, h1, h2, h3⟩ := h n List.mem_cons_self
    have ih := ih fun x m => h x (List.mem_cons_of_mem _ m)
    rw [List.map_cons, lcGo_cons, h1]
    simp only [h2]
    cases hp : p n with
    | false => simp [ih, hp]
    | true => simp [ih, hp, h3 hp]
theorem bIn_ints {i : Int} {l : List Int} : bIn (.fz (.int i)) (.fz (.list (l.map .int))) = some (decide (i ∈ l)) := by
  have h := @oIn_ints i l
  unfold oIn at h
  obtain ⟨b, e1, e2⟩ := Option.map_eq_some_iff.mp h
  cases e2
  exact e1
theorem oIn_il {i : Int} {l : List Int} : oIn (.fz (.int i)) (.lst (l.map .int)) = some (.fz (.bool (decide (i ∈ l)))) := oIn_ints
theorem oNin_ints {i : Int} {l : List Int} : oNin (.fz (.int i)) (.fz (.list (l.map .int))) = some (.fz (.bool (!decide (i ∈ l)))) := by
  unfold oNin
  rw [bIn_ints]
  rfl
theorem oNin_il {i : Int} {l : List Int} : oNin (.fz (.int i)) (.lst (l.map .int)) = some (.fz (.bool (!decide (i ∈ l)))) := oNin_ints
/-! ### a list's item left out -/
theorem erase_count {x t : Int} : ∀ {l : List Int} {j : Nat}, l[j]? = some t → (l.eraseIdx j).count x + (if t = x then 1 else 0) = l.count x
  | [], _, e => by simp at e
  | n :: r, 0, e => by
    have e' : n = t := by simpa using e
    subst e'
    rw [List.eraseIdx_cons_zero, List.count_cons]
    by_cases h : n = x <;> simp [h]
  | n :: r, j + 1, e => by
    have ih := erase_count (x := x) (l := r) (j := j) (by simpa using e)
    rw [List.eraseIdx_cons_succ, List.count_cons, List.count_cons]
    omega
theorem fstAt_some {i : Int} : ∀ {ns : List Int}, i ∈ ns → ∃ j, fstAt i ns = some j
  | [], h => by cases h
  | n :: r, h => by
    unfold fstAt
    by_cases c : n = i
    · exact ⟨0, if_pos c⟩
    · rw [if_neg c]
      rcases List.mem_cons.mp h with e | m
      · exact absurd e.symm c
      · obtain ⟨j, e⟩ := fstAt_some m
        exact ⟨j + 1, by rw [e]; rfl⟩
/-- a few ints, none twice -/
def okW (m : Int) (W : List Int) : Prop := W.Nodup ∧ ∀ x ∈ W, 0 ≤ x ∧ x < m
theorem okW_nil {m : Int} : okW m [] := ⟨.nil, fun x h => by cases h⟩
theorem len_le_of_sub : ∀ {l r : List Int}, l.Nodup → (∀ x ∈ l, x ∈ r) → l.length ≤ r.length
  | [], _, _, _ => Nat.zero_le _
  | a :: l, r, h, s => by
    have n1 := List.nodup_cons.mp h
    have ma : a ∈ r := s a List.mem_cons_self
    have := len_le_of_sub (r := r.erase a) n1.2 fun x m => by
      have hx := s x (List.mem_cons_of_mem _ m)
      exact (List.mem_erase_of_ne (fun e => n1.1 (by rw [← e]; exact m))).mpr hx
    rw [List.length_erase_of_mem ma] at this
    have hp : 0 < r.length := List.length_pos_of_mem ma
    rw [List.length_cons]
    omega
theorem okW.len {m : Int} {W : List Int} (h : okW m W) : W.length ≤ m.toNat := by
  have := len_le_of_sub (r := (List.range m.toNat).map fun k : Nat => (k : Int)) h.1 fun x hx => by
    obtain ⟨h1, h2⟩ := h.2 x hx
    exact List.mem_map.mpr ⟨x.toNat, List.mem_range.mpr (by omega), by omega⟩
  simpa using this
theorem okW.sub {m : Int} {W V : List Int} (h : okW m W) (s : V.Sublist W) : okW m V := ⟨h.1.sublist s, fun x hx => h.2 x (s.subset hx)⟩
theorem okW.snoc {m : Int} {W : List Int} {x : Int} (h : okW m W) (hx : x ∉ W) (h1 : 0 ≤ x ∧ x < m) : okW m (W ++ [x]) :=
  ⟨List.nodup_append.mpr ⟨h.1, by simp, fun a ha b hb e => hx (by rw [← List.mem_singleton.mp hb, ← e]; exact ha)⟩, fun y hy => by
    rcases List.mem_append.mp hy with q | q
    · exact h.2 y q
    · rw [List.mem_singleton.mp q]; exact h1⟩
end FM
namespace FM
open PySem PySem.Spec L2 PyProof.Rows
/-! ### simp words for targets that take what is own -/
section
variable {ρ : List O} {i n : Nat} {o : O} {f : QT} {g : List O → List O → Option (List O)} {ds : List PD} {r : List O} {z : Str}
@[simp] theorem tName_eq : tName i o ρ = some (ρ.set i o) := rfl
@[simp] theorem tNil2_eq : tNil2 [] ρ = some ρ := rfl
@[simp] theorem tCons2_eq : tCons2 f g (o :: r) ρ = match f o ρ with
    | some ρ1 => g r ρ1
    | none => none := rfl
@[simp] theorem tTup_fz : tTup n g (.fz (.tuple ds)) ρ = if ds.length = n then g (ds.map .fz) ρ else none := rfl
@[simp] theorem tTup_ntp : tTup n g (.ntp r) ρ = if r.length = n then g r ρ else none := rfl
theorem tEnt_eq {kvs : List (Key × O)} (h : qVar i ρ = some (.ndc kvs)) (h1 : (kvs.map (·.1)).Nodup) (h2 : kvs.length < sizeLine) : tEnt i z o ρ = some (ρ.set i (.ndc (putO kvs (.inr z) o))) := by
  unfold tEnt
  rw [h]
  simp only
  rw [if_pos ⟨h1, h2⟩]
end
/-! ### names of the module -/
theorem pe_gs {X : Cx} {x z : Str} {pos : Pos} (hg : Gl X x) (h : ∃ t, X.mg x = some (.str z t)) (hd : (x == ("__debug__" : Str)) = false := by decide) : PE X (.Name x pos) (tC (.str z)) :=
  let ⟨t, e⟩ := h
  C8.pe_gc (v := .str z) hg ⟨_, e, ⟨t, rfl⟩⟩ hd
theorem pe_gi {X : Cx} {x : Str} {z : Int} {pos : Pos} (hg : Gl X x) (h : ∃ t, X.mg x = some (.int z t)) (hd : (x == ("__debug__" : Str)) = false := by decide) : PE X (.Name x pos) (tC (.int z)) :=
  let ⟨t, e⟩ := h
  C8.pe_gc (v := .int z) hg ⟨_, e, ⟨t, rfl⟩⟩ hd
theorem shaped_il {l : List Int} : SeqAt.shaped (.list (l.map .int)) = true := shaped_ints l
theorem oIn_intt {i : Int} {l : List Int} : oIn (.fz (.int i)) (.fz (.tuple (l.map .int))) = some (.fz (.bool (decide (i ∈ l)))) := by
  have e1 : SeqAt.shaped (.tuple (l.map PyData.int)) = true := shaped_ints l
  have e2 : SeqAt.shaped (PyData.int i) = true := by simp [SeqAt.shaped, PyData.canLay0, PyData.depth]
  have e3 : ((l.map PyData.int).any fun z => PyData.eqv z (.int i)) = decide (i ∈ l) := by
    rw [List.any_map, Bool.eq_iff_iff, List.any_eq_true]
    constructor
    · rintro ⟨j, mj, e⟩
      simp [eqv_int] at e
      rw [← e]
      simpa using mj
    · intro mi
      exact ⟨i, by simpa using mi, by simp [eqv_int]⟩
  have e4 : bIn (.fz (.int i)) (.fz (.tuple (l.map .int))) = some (decide (i ∈ l)) := by
    rw [← e3]
    show (if (SeqAt.shaped (PyData.int i) && SeqAt.shaped (PyData.tuple (l.map PyData.int))) = true then _ else _) = _
    rw [e1, e2]
    rfl
  unfold oIn
  rw [e4]
  rfl
/-! ### comprehensions with a test that has effects -/
def lcW2 (f : QG) (c : M Bool) (e : M O) (vs : List Nat) : List PD → List PD → List O → (List PD → List O → Prop) → Prop
  | [], acc, ρ, Q => Q acc ρ
  | x :: xs, acc, ρ, Q => ∃ ρ1, f x ρ = some ρ1 ∧ wM (c ρ1) fun t ρ2 => (t = true → wM (e ρ2) fun o ρ3 => ∃ d, o = .fz d ∧ acc.length < sizeLine ∧ lcW2 f c e vs xs (acc ++ [d]) (wipeO ρ3 vs) Q) ∧ (t = false → lcW2 f c e vs xs acc (wipeO ρ2 vs) Q)
theorem lcW2_go {f : QG} {c : M Bool} {e : M O} {vs : List Nat} {Q : List PD → List O → Prop} : ∀ {xs acc : List PD} {ρ : List O}, lcW2 f c e vs xs acc ρ Q → ∃ ds ρ2, lcGoM f c e vs xs acc ρ = .ok ds ρ2 ∧ Q ds ρ2
  | [], acc, ρ, h => ⟨acc, ρ, rfl, h⟩
  | x :: xs, acc, ρ, h => by
    obtain ⟨ρ1, e1, h⟩ := h
    unfold lcGoM
    rw [e1]
    simp only
    cases ec : c ρ1 with
    | ok t ρ2 =>
      rw [ec] at h
      cases t with
      | false => exact lcW2_go (h.2 rfl)
      | true =>
        have h := h.1 rfl
        simp only
        cases e2 : e ρ2 with
        | ok o ρ3 =>
          rw [e2] at h
          obtain ⟨d, rfl, h1, h2⟩ := h
          simp only [h1, if_true]
          exact lcW2_go h2
        | _ => rw [e2] at h; exact h.elim
    | _ => rw [ec] at h; exact h.elim
theorem wM_lcI2 {mi : M (List PD)} {f : QG} {c : M Bool} {e : M O} {vs : List Nat} {ρ : List O} {Q : O → List O → Prop} (h : wM (mi ρ) fun ds ρ1 => lcW2 f c e vs ds [] (wipeO ρ1 vs) fun acc ρ2 => Q (.lst acc) ρ2) : wM (mLc mi f c e vs ρ) Q := by
  unfold mLc
  cases e1 : mi ρ with
  | ok ds ρ1 =>
    rw [e1] at h
    obtain ⟨acc, ρ2, e2, q⟩ := lcW2_go h
    simp only [e2]
    exact q
  | _ => rw [e1] at h; exact h.elim
theorem cut_map2 {xs : List Int} {lo hi : Option Int} : cut (xs.map PyData.int) lo hi = (cut xs lo hi).map .int := by
  unfold FM.cut
  rw [List.length_map, List.map_take, List.map_drop]
theorem cut_mem2 {xs : List Int} {lo hi : Option Int} {y : Int} (m : y ∈ cut xs lo hi) : y ∈ xs := List.mem_of_mem_drop (List.mem_of_mem_take m)
theorem cut_len2 {xs : List Int} {lo hi : Option Int} : (cut xs lo hi).length ≤ xs.length := by
  unfold FM.cut
  rw [List.length_take, List.length_drop]
  omega
theorem oSl_lst2 {ds : List PD} {lo hi : Option Int} : oSl (.lst ds) lo hi = some (.fz (.list (cut ds lo hi))) := rfl
theorem fPop_snoc {ds : List PD} {x : PD} : fPop (ds ++ [x]) [] = some (x, ds) := by
  unfold fPop
  simp
end FM
namespace FM
open PySem PySem.Spec L2 PyProof.Rows
/-! ### a tuple of the module's own top -/
def tGt (x : Str) (K : Frag) : TE := fun _ H Q => Q (.ref (He.ga K x)) H
theorem pe_gt {X : Cx} {x : Str} {pos : Pos} (hg : Gl X x) (h : X.mg x = some (.ref (He.ga X.K x))) (hd : (x == ("__debug__" : Str)) = false := by decide) : PE X (.Name x pos) (tGt x X.K) :=
  C8.pe_gc (v := .ref (He.ga X.K x)) hg ⟨_, h, rfl⟩ hd
theorem reps_of_strs {K : Frag} {F : Hp} : ∀ (ns : List Str), Reps K F (ns.map V.str) (ns.map .str)
  | [] => .nil
  | n :: r => .cons (.str n) (reps_of_strs r)
theorem tev_gt {k : Kc} {x : Str} {zs : List Str} (h : ∀ G, SqT k.K G (He.ga k.K x) (zs.map V.str)) : TEv k (tGt x k.K) (fun _ => some (.ktp (zs.map .str))) := by
  intro F H σ ρ S o Q q e g
  cases e
  exact g _ F H (Xt.refl q.fle) ⟨[], by simp, .ktp h (reps_of_strs zs)⟩
def tupX (K : Frag) (ts : List (Str × List Str)) : Bool := ts.all fun t => He.tupB K t.1 (t.2.map .str)
theorem tupX_ok {K : Frag} {ts : List (Str × List Str)} (h : tupX K ts = true) {x : Str} {zs : List Str} (m : (x, zs) ∈ ts) (G : Hp) : SqT K G (He.ga K x) (zs.map V.str) := by
  have := He.tupB_ok (List.all_eq_true.mp h (x, zs) m) G
  rw [List.map_map] at this
  exact this
/-! ### list.index of ints -/
section
variable {k : Kc} {ta tb : TE} {qa qb : QE}
def oIdx (x y : O) : Option O := match seqL x, y with
  | some ds, .fz (.int i) => match intsD ds with
    | some ns => match fstAt i ns with
      | some j => some (.fz (.int ((j : Nat) : Int)))
      | none => none
    | none => none
  | _, _ => none
theorem flat_ints : ∀ (ns : List Int), (ns.map V.int).all flatV = true
  | [] => rfl
  | n :: r => by
    rw [List.map_cons, List.all_cons, flat_ints r]
    rfl
theorem tev_idx (ha : TEv k ta qa) (hb : TEv k tb qb) : TEv k (tBM k.K "list" (rIndex k.K) ta (tCons tb tNil)) (qOp oIdx qa qb) := by
  intro F H σ ρ S o Q q e h
  unfold qOp at e
  cases e1 : qa ρ with
  | none => rw [e1] at e; cases e
  | some x =>
    rw [e1] at e
    cases e2 : qb ρ with
    | none => simp only [e2] at e; cases e
    | some y =>
      simp only [e2] at e
      unfold oIdx at e
      split at e
      · rename_i ds i es
        split at e
        · rename_i ns en
          split at e
          · rename_i j hj
            cases e
            refine ha F H σ ρ S x _ q e1 fun v F1 H1 x1 w1 => ?_
            obtain ⟨a, vs, rfl, g1, g2⟩ := w1.seqL x1.fle es
            refine ⟨.inl ⟨rfl, vs, g1⟩, ?_⟩
            refine hb F1 H1 σ ρ S _ _ (q.xt x1) e2 fun w F2 H2 x2 w2 => ?_
            obtain ⟨a2, vs2, ee, g3, g4⟩ := (w1.xt x2).seqL x2.fle es
            cases ee
            have hw : w = .int i := by
              have r := w2.rep
              cases r with
              | int => rfl
              | dic _ _ e => cases e
              | dit _ _ e => cases e
            subst hw
            have e3 := intsD_eq en
            subst e3
            rw [reps_ints g4] at g3
            obtain ⟨h1, h2⟩ := fstAt_is hj
            refine ⟨a, ns.map V.int, .int i, j, .int i, rfl, rfl, g3, rfl, flat_ints ns, by rw [List.getElem?_map, h1]; rfl, by simp [eqV], fun m z' hm hz => ?_, h _ F2 H2 (x1.trans x2) (.fz (.int _))⟩
            rw [List.getElem?_map] at hz
            obtain ⟨n, hn, rfl⟩ := Option.map_eq_some_iff.mp hz
            have : n ≠ i := fun e => h2 m hm (by rw [hn, e])
            simp [eqV, this]
          · cases e
        · cases e
      · cases e
@[simp] theorem oIdx_l {l : List Int} {i : Int} : oIdx (.fz (.list (l.map .int))) (.fz (.int i)) = match fstAt i l with
      | some j => some (.fz (.int ((j : Nat) : Int)))
      | none => none := by
  have e : intsD (l.map PyData.int) = some l := intsD_map l
  unfold oIdx
  show (match intsD (l.map PyData.int) with | some ns => _ | none => none) = _
  rw [e]
theorem fstAt_mem {i : Int} : ∀ {l : List Int}, i ∈ l → ∃ j, fstAt i l = some j ∧ j < l.length
  | [], h => nomatch h
  | n :: r, h => by
    unfold fstAt
    by_cases c : n = i
    · exact ⟨0, by simp [c], by simp⟩
    · rw [if_neg c]
      obtain ⟨j, e, hj⟩ := fstAt_mem (l := r) (by simpa [Ne.symm c] using h)
      exact ⟨j + 1, by rw [e]; rfl, by simpa using hj⟩
end
/-! ### list.insert -/
section
variable {k : Kc}
def rIns : V → List V → Hp → VK → Prop := fun x vs H Q => ∃ (l : Addr) (xs : List V) (i : Int) (y : V), x = .ref l ∧ vs = [.int i, y] ∧ H l = some (.lst xs) ∧ xs.length < sizeLine ∧ 0 ≤ i ∧ i < 2 ^ 63 ∧
    Q .non (upd H l (.lst (xs.take i.toNat ++ [y] ++ xs.drop i.toNat)))
noncomputable def fIns : List PD → List PD → Option (PD × List PD) := fun ds xs => match xs with
  | [.int i, d] => if ds.length < sizeLine ∧ 0 ≤ i ∧ i < 4611686018427387904 then some (.none, ds.take i.toNat ++ [d] ++ ds.drop i.toNat) else none
  | _ => none
theorem lm_ins : LstM k rIns fIns := by
  intro F H a vs ds ws xs d ds' Q fl ha r rw' e g
  unfold fIns at e
  split at e
  · rename_i i d0
    split at e
    · rename_i hb
      cases e
      cases rw' with
      | cons w r2 =>
        cases r2 with
        | cons w3 r3 =>
          cases r3
          have ew := (Vw.fz (k := k) (H := F) (S := []) w).int
          subst ew
          exact ⟨a, vs, i, _, rfl, rfl, ha, by rw [r.length]; exact hb.1, hb.2.1, by have := hb.2.2; omega, g _ _ (((r.take _).append (.cons w3 .nil)).append (r.drop _)) .non⟩
    · cases e
  · cases e
theorem fIns_i {ns : List Int} {i j : Int} (h : ns.length < 16777216) (h1 : 0 ≤ i) (h2 : i < 4611686018427387904) : fIns (ns.map .int) [.int i, .int j] = some (.none, (ns.take i.toNat ++ [j] ++ ns.drop i.toNat).map .int) := by
  unfold fIns
  show (if _ then _ else _) = _
  rw [if_pos ⟨by rw [List.length_map]; exact h, h1, h2⟩]
  simp
end
end FM
namespace FM
open PySem PySem.Spec L2 PyProof.Rows
/-! ### enumerate of a list or a tuple -/
theorem meets_enum1 {v : Value} {o : Obj} {H : Heap → Prop} (B : Begins v o H) :
    Meets (Builtin.«enumerate.__new__» ⟨[.type "enumerate", v], []⟩) (fun _ R s => H s.heap ∧
      R (.ok (.ret (.ref (s.heap.push o).objs.size))) { s with heap := (s.heap.push o).push { cls := .type "enumerate", data := .fields #[.none, .bool false, .ref s.heap.objs.size, rawInt 0, .none, .none] } }) :=
  .of_wp fun prog w A R s h => by
    obtain ⟨hp, g, d, tk, os⟩ := s; obtain ⟨h1, h⟩ := h
    have hsub := sub_enumerate
    have q1 : ∀ {A' : Around} {E : Value → Shared → Prop} {Q : Value → Shared → Prop}, Q (.ref hp.objs.size) ⟨hp.push o, g, d, tk, os⟩ → wpAny (model prog w) A' (pyIter v) Q E ⟨hp, g, d, tk, os⟩ :=
      fun q => B.iter prog w _ _ ⟨hp, g, d, tk, os⟩ _ h1 q
    wp_walk using q1
    refine wpAny_stack_any fun st => wpAny_pure ?_
    split
    · rename_i c _ _ _ _ _
      cases (c == Value.type "enumerate")
      · wp_walk using q1
        exact ⟨_, rfl, h⟩
      · wp_walk using q1
        exact ⟨_, rfl, h⟩
    · wp_walk using q1
      exact ⟨_, rfl, h⟩
theorem enum_begins1 {prog : Program} {w : World} {A : Around} {E : Value → Shared → Prop} {s : Shared} {v : Value} {o : Obj} {H : Heap → Prop} {Q : Value → Shared → Prop} (B : Begins v o H) (h1 : H s.heap)
    (h : ∀ h', IsEnum h' (s.heap.objs.size + 1) s.heap.objs.size 0 .none → h'.get? s.heap.objs.size = some o → h'.objs.size = s.heap.objs.size + 2 →
      (∀ b o, s.heap.get? b = some o → h'.get? b = some o) → Q (.ref (s.heap.objs.size + 1)) { s with heap := h' }) :
    wpAny (model prog w) A (call (.type "enumerate") [v]) Q E s := by
  refine callType_new F.called_enumerate (by decide) (F.typeCall_enumerate_1 _) (F.newCall_enumerate_1 _) (fun obj => F.args_object_init_2 obj _) F.entry_enumerate_new
    (meets_enum1 B) ⟨h1, ?_⟩
  have hz : (s.heap.push o).objs.size = s.heap.objs.size + 1 := Heap.size_push ..
  show _ ∧ _
  rw [hz]
  have he : IsEnum ((s.heap.push o).push { cls := .type "enumerate", data := .fields #[.none, .bool false, .ref s.heap.objs.size, rawInt 0, .none, .none] }) (s.heap.objs.size + 1) s.heap.objs.size 0 .none := by
    have := Heap.get?_push_size (s.heap.push o) (o := { cls := .type "enumerate", data := .fields #[.none, .bool false, .ref s.heap.objs.size, rawInt 0, .none, .none] }) rfl
    rw [hz] at this; exact this
  refine ⟨⟨_, he, rfl⟩, h _ he (Heap.get?_push_of_some _ (Heap.get?_push_size _ B.free)) (by rw [Heap.size_push, hz]) fun b o x => Heap.get?_push_of_some _ (Heap.get?_push_of_some _ x)⟩
def IteB (K : Frag) (b : Bool) (a : Addr) : It :=
  ⟨fun i H => ∃ (xs : List V) (x : V), SqB b K H a xs ∧ xs[i]? = some x,
    fun i H v H' => ∃ (T : Addr) (x : V), v = .ref T ∧ H T = none ∧ H' = upd H T (.tup [.int (i : Nat), x]) ∧ ∀ xs, SqB b K H a xs → xs[i]? = some x,
    fun i H => ∃ xs : List V, SqB b K H a xs ∧ xs.length ≤ i⟩
def tnE (b : Bool) (e it a : Addr) (i : Nat) (h : Heap) : Prop := (∃ old, IsEnum h e it (0 + (i : Int)) old) ∧ IterB b h it a i
theorem turn_enumB {P : Program} {w : World} {K : Frag} {elts : List Expr} {kk : Nat} {tpos : Pos} {b : Bool} {a e it : Addr} (hei : e ≠ it) (hea : e ≠ a) (ha : a ≠ it) :
    Turn P w K (.Tuple elts kk tpos) (IteB K b a) [e, it] e (tnE b e it a) where
  mem := List.mem_cons_self
  obj := fun i h st c hc => by
    obtain ⟨⟨old, q1⟩, q4⟩ := st
    simp only [List.mem_cons, List.not_mem_nil, or_false] at hc
    rcases hc with rfl | rfl
    · exact ⟨_, q1, fun v q => by cases q⟩
    · exact q4.ob
  keep := fun i h h' st k => by
    obtain ⟨⟨old, q1⟩, q4⟩ := st
    exact ⟨⟨old, k e List.mem_cons_self _ q1⟩, q4.at (k it (by simp))⟩
  item := by
    rintro X rfl rfl rfl hc i pins s σ H E I hf ⟨q1, q4⟩ ⟨xs, x, g1, e1⟩
    obtain ⟨its1, r1, p1⟩ := sqB_inv I g1
    obtain ⟨u1, o1, w1⟩ := r1.get e1
    have hd : X.A.in1.handled = none := I.ok.hd hc
    have l1 : i < its1.length := (List.getElem?_eq_some_iff.mp o1).1
    have G := GoesN.enumFrom (elts := elts) (x1 := kk) (pos := tpos) 0 (drawsB (P := X.prog) (w := X.w) (items := its1.toArray) b hd ha) e hei (by simp [hei, hea]) (by simp)
    refine G.goes i s (fun u s2 => ∃ x H', Inv X pins σ H' s2 ∧ RelV x u ∧ (IteB X.K b a).yld i H x H' ∧ tnE b e it a (i + 1) s2.heap ∧ ∀ b ∈ [e, it], H' b = none) E (by simp; omega) ⟨q1, q4, p1⟩ ?_
    rintro v h' tk ⟨T, t, v1, rfl, hT, a1, c⟩ ⟨t1, t4⟩ hk htk
    rw [List.getElem?_toArray, o1] at a1
    cases a1
    obtain ⟨oT, c1, c2, c3, c4⟩ := c
    rw [Int.zero_add] at c4
    have mk : ObjOk X.prog X.w (upd H T (.tup [.int (i : Nat), x])) h' T (.tup [.int (i : Nat), x]) := ⟨show 2 ≤ sizeLine by decide, [.int i t, u1], .cons ⟨_, rfl⟩ (.cons w1 .nil), oT, c1, c2, c3, c4⟩
    have I2 := I.turnedNew (t' := tk) (ch := [e, it]) (fun c o nc q => hk c o nc q) hf hT mk
    refine ⟨.ref T, _, I2, rfl, ⟨T, x, rfl, I.hok.fresh hT, rfl, fun l hl => by rw [sqB_inj I hl g1]; exact e1⟩, ⟨t1, t4.1⟩, fun c hm => ?_⟩
    obtain ⟨oc, ec, _⟩ : ∃ o, s.heap.get? c = some o ∧ True := by
      simp only [List.mem_cons, List.not_mem_nil, or_false] at hm
      rcases hm with rfl | rfl
      · obtain ⟨_, q1⟩ := q1; exact ⟨_, q1, trivial⟩
      · obtain ⟨o, e, _⟩ := q4.ob; exact ⟨o, e, trivial⟩
    have : c < T := Nat.lt_of_lt_of_le (Heap.lt_size ec) hT
    rw [upd_ne (Nat.ne_of_lt this)]
    exact (hf c hm).1
  done := by
    rintro X rfl rfl rfl hc i pins s σ H E I hf ⟨q1, q4⟩ ⟨xs, g1, hz⟩
    obtain ⟨its1, r1, p1⟩ := sqB_inv I g1
    have hd : X.A.in1.handled = none := I.ok.hd hc
    have n1 := r1.length
    have fin : ∀ h' tk, (∀ b o, b ∉ [e, it] → s.heap.get? b = some o → h'.get? b = some o) → s.toks ≤ tk → Inv X pins σ H { s with heap := h', toks := tk } := fun h' tk hk _ =>
      I.turnedL (t' := tk) (ch := [e, it]) (fun c o nc q => hk c o nc q) hf
    have k1 : its1.toArray[i]? = none := by simp; omega
    have G := GoesN.enumFrom (elts := elts) (x1 := kk) (pos := tpos) 0 (drawsEnd (P := X.prog) (w := X.w) (it := it) (a := a) b hd k1) e hei (by simp [hei, hea]) (by simp)
    exact G.stops s _ E ⟨q1, rfl, q4, p1⟩ fin
  self := fun A i s Q E st h => by
    obtain ⟨⟨old, he⟩, _⟩ := st
    exact wpAny_pyIter_enum he h
def iEnumB (K : Frag) (ta : TA) : TI := fun σ H R => ta σ H fun vs H1 => ∃ (a : Addr) (b : Bool) (xs : List V), vs = [.ref a] ∧ SqB b K H1 a xs ∧ R (IteB K b a) H1
theorem pi_enumB {X : Cx} {e : Expr} {ta : TA} {p pos tpos : Pos} {elts : List Expr} {kk : Nat} (hg : Gl X "enumerate") (hm : X.mg "enumerate" = none) (ha : PA X [e] ta) (hs : starEach [e] X.env = [(false, eval e X.env)] := by rfl) :
    PI X (.Tuple elts kk tpos) (.Call (.Name "enumerate" p) [e] [] pos) (iEnumB X.K ta) := by
  refine ⟨fun pins s σ H R I h => ?_⟩
  refine Call_ (ld_blt I hg hm boot_enumerate (PyProof.Rows.callWith_type1 (thn (ha.run pos pins s σ H _ I h) fun us s1 ⟨vs, H1, I1, r1, q1⟩ => ?_) hs rfl))
  obtain ⟨a, b, xs, rfl, g1, q⟩ := q1
  cases r1 with
  | cons r rr =>
    cases rr
    cases r
    obtain ⟨its1, _, p1⟩ := sqB_inv I1 g1
    obtain ⟨o1, B1, it1⟩ := beginsB b a its1.toArray
    have la := p1.lt
    refine enum_begins1 B1 p1 fun h' he hit hsz hk => wpAny_pyIter_enum he ?_
    refine ⟨s1.heap.objs.size + 1, [s1.heap.objs.size + 1, s1.heap.objs.size], tnE b _ _ a, _, H1, rfl, I1.kept (t' := s1.toks) hk, turn_enumB (Nat.succ_ne_self _) (Nat.ne_of_gt (Nat.lt_succ_of_lt la)) (Nat.ne_of_lt la), ⟨⟨.none, he⟩, it1 _ _ hit⟩, fun c hc => ?_, q⟩
    have hle : s1.heap.objs.size ≤ c := by
      simp only [List.mem_cons, List.not_mem_nil, or_false] at hc
      rcases hc with rfl | rfl
      · exact Nat.le_add_right _ _
      · exact Nat.le_refl _
    exact I1.fpOk hle (I1.hok.fresh hle)
section
variable {k : Kc} {P : Hp → Hp → Prop} {a : Addr} {vs : List V} {ds : List PD}
theorem walkD_enumB {b : Bool} (hs : ∀ F H, P F H → FLe F H → SqB b k.K H a vs ∧ Reps k.K F vs ds) (l1 : vs.length = ds.length) : WalkD k P (IteB k.K b a) (enumGo 0 ds) := by
  refine ⟨fun i F H hi p f => ?_, fun F H p f => ?_, fun i F H x H' hi p f y => ?_⟩
  · obtain ⟨h1, _⟩ := enum_at hi
    exact ⟨vs, vs[i], (hs F H p f).1, List.getElem?_eq_getElem (by omega)⟩
  · exact ⟨vs, (hs F H p f).1, by rw [enum_len]; omega⟩
  · obtain ⟨h1, h3⟩ := enum_at hi
    obtain ⟨s1, r1⟩ := hs F H p f
    obtain ⟨T, x1, rfl, hT, rfl, e1⟩ := y
    obtain ⟨v, g1, g2⟩ := r1.get (i := i) (d := ds[i]) (by simp [h1])
    rw [e1 vs s1] at g1
    cases g1
    rw [h3, Nat.zero_add]
    exact pair_new f hT (.int _) g2
def qEnumT (r : List O → Option (List O)) : QI := fun ρ => match r ρ with
  | some [x] => match fzA x with
    | some ds => some (enumGo 0 ds)
    | none => none
  | _ => none
@[simp] theorem qEnumT_eq {r : List O → Option (List O)} {ρ : List O} : qEnumT r ρ = match r ρ with
    | some [x] => match fzA x with
      | some ds => some (enumGo 0 ds)
      | none => none
    | _ => none := rfl
theorem tif_enumT {ta : TA} {qs : List O → Option (List O)} (ha : TAv k ta qs) : TIf k (iEnumB k.K ta) (qEnumT qs) := by
  intro F H σ ρ S xs R q e g
  unfold qEnumT at e
  split at e
  · rename_i x e1
    split at e
    · rename_i ds d1
      cases e
      refine ha F H σ ρ S _ _ q e1 fun us F1 H1 x1 w1 => ?_
      cases w1 with
      | cons w ww =>
        cases ww
        obtain ⟨b1, a, vs, rfl, g1, g2⟩ := vw_fzB w d1
        exact ⟨a, b1, vs, rfl, sqB_le x1.fle (g1 F1 (Same.refl _)), g _ F1 H1 x1 (walkD_enumB (fun F2 H2 p f => ⟨sqB_le f (g1 F2 p), g2.sub p⟩) g2.length)⟩
    · cases e
  · cases e
end
end FM
namespace FM
open PySem PySem.Spec L2 PyProof.Rows
open PySem.W (dataLe alike AllAlike Sortable EachIs)
/-! ### dicts whose keys are tuples: store, sorted -/
def tkD (z : List Key) : PD := .tuple (z.map keyD)
theorem reps_keys {K : Frag} {F : Hp} : ∀ z : List Key, Reps K F (z.map kV) (z.map keyD)
  | [] => .nil
  | .inl i :: r => .cons (.int i) (reps_keys r)
  | .inr x :: r => .cons (.str x) (reps_keys r)
theorem readsAll_keys {h : Heap} : ∀ {z : List Key} {us : List Value} {as : List Addr}, ReadsAll h us (z.map keyD) as → as = []
  | [], _, _, r => by cases r; rfl
  | .inl i :: z, _, _, r => by
    rw [List.map_cons] at r
    cases r with
    | cons h1 h2 =>
      cases h1
      exact readsAll_keys h2
  | .inr x :: z, _, _, r => by
    rw [List.map_cons] at r
    cases r with
    | cons h1 h2 =>
      cases h1
      exact readsAll_keys h2
theorem reads_tk {h : Heap} {z : List Key} {u : Value} {as : List Addr} (r : Reads h u (tkD z) as) : as = [] := by
  unfold tkD at r
  cases r with
  | tuple h1 h2 h3 h4 => exact readsAll_keys h4
theorem depth_keys : ∀ z : List Key, PyData.depthAll (z.map keyD) = 0
  | [] => by simp [PyData.depthAll]
  | .inl i :: z => by simp [PyData.depthAll, PyData.depth, keyD, depth_keys z]
  | .inr x :: z => by simp [PyData.depthAll, PyData.depth, keyD, depth_keys z]
theorem depth_tk {z : List Key} : (tkD z).depth ≤ 1 := by simp [tkD, PyData.depth, depth_keys z]
def rSortDT : List V → Hp → VK → Prop := fun vs H Q => ∃ (a : Addr) (kvs : List (List Key × V)), vs = [.ref a] ∧ Rd H a (.dT kvs) ∧ AllAlike (kvs.map fun p => tkD p.1) ∧ Sortable (kvs.map fun p => tkD p.1) ∧ (∀ p ∈ kvs, (tkD p.1).canLay0 = true) ∧
  ∀ p bs, H p = none → IsKeys H kvs bs → Q (.ref p) (upd H p (.lst ((((bs.map V.ref).zip (kvs.map fun p => tkD p.1)).mergeSort (dataLe false Prod.snd)).map Prod.fst)))
theorem keys_reps {K : Frag} {H : Hp} : ∀ {kvs : List (List Key × V)} {bs : List Addr}, IsKeys H kvs bs → Reps K H (bs.map V.ref) (kvs.map fun p => tkD p.1)
  | [], _, .nil => .nil
  | p :: r, _, .cons h t => .cons (.tup h (reps_keys p.1)) (keys_reps t)
section
variable {X : Cx}
theorem cr_sortDT (hc : X.calm = true) (hu : X.A.units + 64 < cLine) : CallR X (.builtin "sorted") rSortDT := by
  intro pins s σ H xs us Q I r h
  obtain ⟨d, kvs, rfl, hd, hal, hsr, hcl, q⟩ := h
  obtain ⟨u, rfl, rx⟩ := r.one
  cases rx
  obtain ⟨z, hs, ks, pr, o, es, ep, ho, hx, hdt, he, hn⟩ := (show ObjOk X.prog X.w H s.heap d (.dT kvs) from hd.ok I.hok)
  have l1 : es.size = ks.length := size_of_entries he
  have l2 : kvs.length = ks.length := Paired.length pr
  have ik := isKeys_of pr
  refine Calls.call_function_entry PyProof.Rows.kind_sorted PyProof.Rows.plain_sorted PyProof.Rows.entry_sorted (PyProof.Rows.args_sorted1 _) ?_
  unfold Builtin.«sorted»
  refine wpAny_bind (m := checkCount "sorted" 1 1 _) (wpAny_pure (wpAny_bind (PySem.W.kdu_collect (A := X.A.in1) (kdl_raw hs hx hdt) (I.ok.hd hc) ho (by omega) fun hp tk acc kk it => ?_)))
  have ea : acc.toList = ks.map fun x => Value.ref x.2.1 := by
    have hl : acc.toList.length = ks.length := by rw [Array.length_toList, it.1]; exact l1
    apply List.ext_getElem?
    intro j
    rw [List.getElem?_map]
    cases hj : acc.toList[j]? with
    | none =>
      have h1 := List.getElem?_eq_none_iff.mp hj
      rw [List.getElem?_eq_none (by omega)]
      all_goals rfl
    | some v =>
      obtain ⟨en, hen, hv⟩ := it.2 j v (by rw [← Array.getElem?_toList]; exact hj)
      have qe := entry_at he j
      rw [hen] at qe
      cases hb : ks[j]? with
      | none =>
        rw [hb] at qe
        exact nomatch (show some en = none from qe)
      | some b =>
        rw [hb] at qe
        have e2 : en = entryOfKey (tupleKind (mixKind X.prog X.w)) b := Option.some.inj qe
        rw [hv, e2]
        all_goals rfl
  have eb : acc.toList = (ks.map fun x => x.2.1).map Value.ref := by rw [ea, List.map_map]; all_goals rfl
  generalize hbs : (ks.map fun x => x.2.1) = bs at eb ik
  have lb : bs.length = kvs.length := by rw [← hbs, List.length_map]; omega
  have rv : Vals (bs.map V.ref) acc.toList := by rw [eb]; exact vals_refs _
  have hz : acc.toList.length ≤ sizeLine := by rw [eb, List.length_map]; omega
  have J : Inv X pins σ H { s with heap := hp, toks := tk } := I.kept kk
  refine wpAny_bind (wpAny_newList ?_ hz)
  have oL : (hp.push (seqObj "list" acc.toList.toArray 0)).get? hp.objs.size = some (seqObj "list" acc.toList.toArray 0) := Heap.get?_push_size _ rfl
  have hfr : H hp.objs.size = none := J.hok.fresh (Nat.le_refl _)
  have J2 : Inv X pins σ (upd H hp.objs.size (.lst (bs.map V.ref))) { s with heap := hp.push (seqObj "list" acc.toList.toArray 0), toks := tk } :=
    J.laid (t' := tk) (fun b o e => Heap.get?_push_of_some _ e) (Nat.le_refl _) ⟨by rw [List.length_map]; omega, acc.toList, 0, rv, oL⟩
  show wpAny _ _ _ _ _ { s with heap := hp.push (seqObj "list" acc.toList.toArray 0), toks := tk }
  obtain ⟨zs, hzs⟩ : ∃ zs, zs = (bs.map V.ref).zip (kvs.map fun p => tkD p.1) := ⟨_, rfl⟩
  have q2 := q hp.objs.size bs hfr ik
  rw [← hzs] at q2
  have rr := keys_reps (K := X.K) ik
  obtain ⟨z1, z2, z3⟩ := zip_reps rr
  rw [← hzs] at z1 z2 z3
  have zm : ∀ y ∈ zs, ∃ p ∈ kvs, y.2 = tkD p.1 := fun y m => by
    have : y.2 ∈ zs.map Prod.snd := List.mem_map.mpr ⟨y, m, rfl⟩
    rw [z3] at this
    obtain ⟨p, mp, e⟩ := List.mem_map.mp this
    exact ⟨p, mp, e.symm⟩
  have e : EachIs (fun v (b : V × PD) => RelV b.1 v) acc.toList zs := each_vals (by rw [z2]; exact rv)
  have er : EachIs (fun v (b : V × PD) => ∃ as, Reads (hp.push (seqObj "list" acc.toList.toArray 0)) v b.2 as ∧ hp.objs.size ∉ as) acc.toList zs := (each_in e).mono fun v b ⟨h1, h2⟩ => by
    obtain ⟨p, mp, ep⟩ := zm b h2
    have r1 : Rep X.K (upd H hp.objs.size (.lst (bs.map V.ref))) b.1 b.2 := (z1 b h2).sub (same_upd hfr)
    obtain ⟨as, ra⟩ := Dp.reads J2 b.2 b.1 v (r1.dp (by rw [ep]; exact hcl p mp)) h1
    refine ⟨as, ra, ?_⟩
    rw [ep] at ra
    rw [reads_tk ra]
    simp
  have hL : zs.length ≤ sizeLine := by
    have := congrArg List.length z2
    rw [List.length_map, List.length_map] at this
    omega
  refine wpAny_bind (wpAny_holding (PySem.W.list_sort_data (enc := Prod.snd) (s := { s with heap := hp.push (seqObj "list" acc.toList.toArray 0), toks := tk }) oL e er (by rw [z3]; exact hal) (by rw [z3]; exact hsr) hL (fun b m => by
    obtain ⟨p, mp, ep⟩ := zm b m
    have := depth_tk (z := p.1)
    rw [ep]
    show X.A.units + 1 + 1 + _ < _
    omega) fun out h1 h2 => ?_))
  obtain ⟨e', he'⟩ := PyProof.Rows.sortedHeap_at (vs := acc.toList) (out := out.toArray) oL
  have rv2 := vals_each h2
  have hlen : ((zs.mergeSort (dataLe false Prod.snd)).map Prod.fst).length ≤ sizeLine := by
    rw [List.length_map, List.length_mergeSort]
    exact hL
  refine wpAny_pure ⟨_, rfl, .ref hp.objs.size, upd H hp.objs.size (.lst ((zs.mergeSort (dataLe false Prod.snd)).map Prod.fst)), J.laid (t' := tk) (fun b u e => ?_) (Nat.le_refl _) ⟨hlen, out, e', rv2, he'⟩, rfl, q2⟩
  have hb : b < hp.objs.size := Heap.lt_size e
  rw [PyProof.Rows.sortedHeap_old (Nat.ne_of_lt hb) (by rw [size_push']; exact Nat.lt_succ_of_lt hb)]
  exact Heap.get?_push_of_some _ e
end
end FM
namespace FM
open PySem PySem.Spec L2 PyProof.Rows
open PySem.W (dataLe alike AllAlike Sortable EachIs)
/-- tuples of ints and texts are taken into what is frozen -/
def adp (F H : Hp) (bs : List Addr) : Hp := fun a => if a ∈ bs then H a else F a
theorem adp_xt {F H : Hp} {bs : List Addr} (f : FLe F H) (g : ∀ a ∈ bs, ∃ u, gnd u ∧ H a = some u) : Xt F H (adp F H bs) H := by
  refine ⟨Same.refl _, fun a u e => ?_, fun a u e => ?_, fun a u e => ?_⟩
  · unfold adp
    by_cases m : a ∈ bs
    · rw [if_pos m]
      obtain ⟨w, ⟨z, ez⟩, ew⟩ := g a m
      rcases f a u e with q | ⟨_, o, q⟩
      · exact q
      · rw [ew, ez] at q; cases q
    · rw [if_neg m]; exact e
  · unfold adp at e
    by_cases m : a ∈ bs
    · rw [if_pos m] at e; exact .inl e
    · rw [if_neg m] at e; exact f a u e
  · unfold adp at e
    by_cases m : a ∈ bs
    · rw [if_pos m] at e
      obtain ⟨w, gw, ew⟩ := g a m
      rw [ew] at e
      cases e
      exact .inr (.inr ⟨gw, ew⟩)
    · rw [if_neg m] at e; exact .inl e
theorem isKeys_gnd {H : Hp} : ∀ {kvs : List (List Key × V)} {bs : List Addr}, IsKeys H kvs bs → ∀ a ∈ bs, ∃ u, gnd u ∧ H a = some u
  | _, _, .nil, a, m => by cases m
  | p :: _, _, .cons h t, a, m => by
    rcases List.mem_cons.mp m with e | m
    · rw [e]; exact ⟨_, ⟨p.1, rfl⟩, h⟩
    · exact isKeys_gnd t a m
theorem isKeys_reps {K : Frag} {H F : Hp} : ∀ {kvs : List (List Key × V)} {bs : List Addr}, IsKeys H kvs bs → (∀ a ∈ bs, F a = H a) → Reps K F (bs.map V.ref) (kvs.map fun p => tkD p.1)
  | [], _, .nil, _ => .nil
  | p :: r, _, .cons h t, e => .cons (.tup ((e _ List.mem_cons_self).trans h) (reps_keys p.1)) (isKeys_reps t fun a m => e a (List.mem_cons_of_mem _ m))
theorem RepT.tks {K : Frag} {F : Hp} : ∀ {vs : List (List Key × V)} {ds : List (List Key × PD)}, RepT K F vs ds → (vs.map fun p => tkD p.1) = ds.map fun p => tkD p.1
  | _, _, .nil => rfl
  | _, _, .cons _ r => congrArg (_ :: ·) (RepT.tks r)
theorem RepT.len' {K : Frag} {F : Hp} : ∀ {vs : List (List Key × V)} {ds : List (List Key × PD)}, RepT K F vs ds → vs.length = ds.length
  | _, _, .nil => rfl
  | _, _, .cons _ r => congrArg (· + 1) (RepT.len' r)
def oSortT : List O → Option O
  | [.dit ds] => if sortC (ds.map fun p => tkD p.1) then some (.lst (sortD (ds.map fun p => tkD p.1))) else none
  | _ => none
theorem cn_sortT {k : Kc} : CbN k rSortDT oSortT := by
  intro F H S xs os o Q f off th ws e h
  unfold oSortT at e
  split at e
  · rename_i ds
    split at e
    · rename_i hc
      cases e
      cases ws with
      | cons w ws =>
        cases ws
        obtain ⟨a, vs, rfl, hd, r⟩ := w.dicT f (rfl : FM.dicT (.dit ds) = some ds)
        have hk := r.tks
        unfold sortC at hc
        simp only [Bool.and_eq_true] at hc
        obtain ⟨⟨c1, c2⟩, c3⟩ := hc
        rw [← hk] at c1 c2 c3
        refine ⟨a, vs, rfl, hd, ?_, ?_, fun p m => ?_, fun p bs hp ik => ?_⟩
        · intro d m d' m'
          exact List.all_eq_true.mp (List.all_eq_true.mp c1 d m) d' m'
        · rcases (Bool.or_eq_true _ _).mp c2 with c2 | c2
          · refine .inl fun d m => ?_
            have := List.all_eq_true.mp c2 d m
            obtain ⟨p, mp, rfl⟩ := List.mem_map.mp m
            unfold tkD at this ⊢
            cases hp : p.1.map keyD with
            | nil => rw [hp] at this; cases this
            | cons x r => exact ⟨x, r, rfl⟩
          · refine .inr fun d m => ?_
            have := List.all_eq_true.mp c2 d m
            obtain ⟨p, mp, rfl⟩ := List.mem_map.mp m
            cases this
        · have := List.all_eq_true.mp c3 _ (List.mem_map.mpr ⟨p, m, rfl⟩)
          simp at this
          exact this.2
        · have x := adp_xt f (isKeys_gnd ik)
          have rr := isKeys_reps (K := k.K) (F := adp F H bs) ik fun b m => if_pos m
          obtain ⟨z1, z2, z3⟩ := zip_reps rr
          generalize hzs : (bs.map V.ref).zip (vs.map fun p => tkD p.1) = zs at z1 z2 z3
          have srt : (zs.mergeSort (dataLe false Prod.snd)).map Prod.snd = sortD (ds.map fun p => tkD p.1) := by
            have e1 := PySem.W.sort_maps (r := dataLe false Prod.snd) (s := dataLe false id) (Prod.snd : V × PD → PD) (l := zs) (fun _ _ _ _ => rfl)
            rw [e1, z3, hk]
            rfl
          have rr2 := reps_mem (K := k.K) (F := adp F H bs) (l := zs.mergeSort (dataLe false Prod.snd)) fun z m => z1 z (List.mem_mergeSort.mp m)
          rw [srt] at rr2
          exact own_list x.fle rr2 (fun v F' H' T x2 w fr => h v F' H' T (x.trans x2) w fr) p hp
    · cases e
  · cases e
/-! store -/
def keyTT : O → Option (List Key)
  | .fz (.tuple ds) => unks ds
  | _ => none
theorem RepT.any {K : Frag} {F : Hp} (x : List Key) : ∀ {vs : List (List Key × V)} {ds : List (List Key × PD)}, RepT K F vs ds → (vs.any fun kv => decide (kv.1 = x)) = (ds.any fun kv => decide (kv.1 = x))
  | _, _, .nil => rfl
  | _, _, .cons h r => by simp only [List.any_cons, RepT.any x r]
theorem RepT.maps {K : Frag} {F : Hp} {x : List Key} {v : V} {d : PD} (h0 : Rep K F v d) : ∀ {vs : List (List Key × V)} {ds : List (List Key × PD)}, RepT K F vs ds → RepT K F (vs.map fun kv => if kv.1 = x then (kv.1, v) else kv) (ds.map fun kv => if kv.1 = x then (kv.1, d) else kv)
  | _, _, .nil => .nil
  | (k, w) :: _, (_, e) :: _, .cons h r => by
    have ih := RepT.maps (x := x) h0 r
    simp only [List.map_cons]
    by_cases c : k = x
    · rw [if_pos c, if_pos c]; exact .cons h0 ih
    · rw [if_neg c, if_neg c]; exact .cons h ih
theorem RepT.snoc {K : Frag} {F : Hp} {x : List Key} {v : V} {d : PD} (h0 : Rep K F v d) : ∀ {vs : List (List Key × V)} {ds : List (List Key × PD)}, RepT K F vs ds → RepT K F (vs ++ [(x, v)]) (ds ++ [(x, d)])
  | _, _, .nil => .cons h0 .nil
  | _, _, .cons h r => .cons h (RepT.snoc h0 r)
theorem RepT.put {K : Frag} {F : Hp} {x : List Key} {v : V} {d : PD} {vs : List (List Key × V)} {ds : List (List Key × PD)} (r : RepT K F vs ds) (h0 : Rep K F v d) : RepT K F (putK vs x v) (putD ds x d) := by
  unfold putK putD
  rw [r.any x]
  split
  · exact RepT.maps h0 r
  · exact RepT.snoc h0 r
section
variable {k : Kc} {E : XK}
theorem StW.ditAt {P : List (Nat × V)} {e : Ent} {σ : L2.St} {ρ : List O} {vs : List V} {os : List O} {F H : Hp} {S1 S2 : List Addr} {i : Nat} {ds : List (List Key × PD)} (s : StW k P e σ ρ vs os F H S1 S2) (e0 : qVar i ρ = some (.dit ds)) :
    ∃ a ws, σ[i]? = some (some (.ref a)) ∧ H a = some (.dT ws) ∧ RepT k.K F ws ds ∧ ∀ ws' ds', RepT k.K F ws' ds' → ∃ U, StW k P e σ (ρ.set i (.dit ds')) vs os F (upd H a (.dT ws')) U S2 := by
  obtain ⟨env, tmp, fr, pin⟩ := s
  obtain ⟨g1, g2⟩ := qVar_some e0
  obtain ⟨v, T, R, a1, a2, a3, a4⟩ := env.take g1 g2
  cases a2 with
  | @dit a ws _ h r =>
    have frz : Fr e F H (a :: (R ++ S2)) := Sbp.fr fr (.of_count fun b => by
      have c2 := a4.count_eq b
      simp only [List.count_append, List.count_cons, List.count_nil] at c2 ⊢
      omega)
    have ha : H a = some (.dT ws) := by
      rcases h with h | ⟨ob, h⟩
      · exact h
      · exact (frz.nofz a List.mem_cons_self ob _ h).elim
    refine ⟨a, ws, a1, ha, r, fun ws' ds' r' => ?_⟩
    have nd := List.nodup_cons.mp frz.nd
    have keep : ∀ U : List Addr, (∀ b ∈ U, b ∈ R ++ S2) → At U H (upd H a (.dT ws')) := fun U m b mb u z => by
      rw [upd_ne (fun q => nd.1 (by rw [← q]; exact m b mb))]
      exact z
    have fw := frz.write (a := a) (o := .dT ws') List.mem_cons_self (fun _ _ z => by cases z)
    have env3 := a3.mono (Same.refl F) (keep R fun b m => List.mem_append_left _ m)
    have tmp3 := tmp.mono (Same.refl F) (keep S2 fun b m => List.mem_append_right _ m)
    obtain ⟨U, mU, q⟩ := env3.put (i := i) a1 (Own.dit (k := k) (F := F) (.inl upd_same) r')
    rw [List.set_set] at q
    exact ⟨U, q, tmp3, Sbp.fr fw (.of_count fun b => by
      have := mU.count b
      simp only [List.count_append, List.count_cons, List.count_nil] at this ⊢
      omega), pin⟩
def sSetT (s : Nat) (qi : QE) (m : M O) : MS := fun ρ => match m ρ with
  | .ok (.fz d) ρ1 => match qVar s ρ1 with
    | some (.dit kvs) => match qi ρ1 with
      | some i => match keyTT i with
        | some x => if kvs.length < sizeLine then .next (ρ1.set s (.dit (putD kvs x d))) else .bad
        | none => .bad
      | none => .bad
    | _ => .bad
  | .ok _ _ => .bad
  | .exc x ρ1 => .exc x ρ1
  | .bad => .bad
theorem tsm_setT {s : Nat} {te ti : TE} {m : M O} {qi : QE} (h : TEm k E te m) (hi : TEv k ti qi) : TSm k E [] (tAsg te (gSub (tVar s) ti rSetU)) (sSetT s qi m) := by
  intro P e σ ρ vs os H D o st g
  refine h P e σ ρ vs os H _ st ?_
  unfold sSetT at g
  cases e1 : m ρ with
  | exc x ρ1 => rw [e1] at g; exact g.exc
  | bad => rw [e1] at g; exact g
  | ok z ρ1 =>
    rw [e1] at g
    intro v H1 s1
    cases z with
    | fz d =>
      simp only at g
      obtain ⟨F, S1, S2, s1⟩ := s1
      split at g
      · rename_i kvs e2
        split at g
        · rename_i i e3
          split at g
          · rename_i x e4
            split at g
            · rename_i hz
              obtain ⟨a, ws, a1, a2, a3, a4⟩ := s1.ditAt e2
              refine ⟨.ref a, a1, hi F H1 σ ρ1 S1 _ _ s1.qs e3 fun w F2 H2 x2 w2 => ?_⟩
              have s2 := s1.xt x2
              obtain ⟨a', ws2, b1, b2, b3, b4⟩ := s2.ditAt e2
              rw [a1] at b1
              cases b1
              have rd := s2.top.1
              unfold keyTT at e4
              split at e4
              · have r := w2.rep
                cases r with
                | @tup b ws3 _ q1 q2 =>
                  have ek := q2.keys e4
                  subst ek
                  refine .inr ⟨a, _, rfl, DPut.t b2 (tup_le x2.fle q1) (by rw [b3.len']; exact hz), ?_⟩
                  obtain ⟨U, s5⟩ := b4 _ _ (b3.put rd)
                  obtain ⟨_, s6⟩ := s5.top
                  exact g σ _ ⟨F2, U, S2, s6⟩
                | dic _ _ e => cases e
                | dit _ _ e => cases e
              · cases e4
            · exact g.elim
          · exact g.elim
        · exact g.elim
      · exact g.elim
    | _ => exact g.elim
end
section
variable {ρ : List O} {nx bk ct : List O → Prop} {rt : O → List O → Prop} {m : M O} {qi : QE}
@[simp] theorem wS_setT {s : Nat} : wS (sSetT s qi m ρ) nx rt bk ct = wM (m ρ) fun o ρ1 => ∃ d, o = .fz d ∧ ∃ kvs, qVar s ρ1 = some (.dit kvs) ∧ ∃ i, qi ρ1 = some i ∧ ∃ x, keyTT i = some x ∧ kvs.length < sizeLine ∧ nx (ρ1.set s (.dit (putD kvs x d))) := by
  unfold sSetT
  cases e : m ρ with
  | ok o ρ1 =>
    cases o with
    | fz d =>
      simp only [wM_ok]
      cases e2 : qVar s ρ1 with
      | none => simp [wS, e2]
      | some z =>
        cases z with
        | dit kvs =>
          cases e3 : qi ρ1 with
          | none => simp [wS, e2, e3]
          | some y =>
            cases e4 : keyTT y with
            | none => simp [wS, e2, e3, e4]
            | some x => by_cases hz : kvs.length < sizeLine <;> simp [wS, e2, e3, e4, hz]
        | _ => simp [wS, e2]
    | _ => simp [wS, e]
  | _ => simp [wS, wM, e]
@[simp] theorem keyTT_ii {i j : Int} : keyTT (.fz (.tuple [.int i, .int j])) = some [.inl i, .inl j] := rfl
@[simp] theorem qDt0_eq : qDt0 ρ = some (.dit []) := rfl
end
end FM
namespace FM
open PySem PySem.Spec L2 PyProof.Rows
/-! ### a tuple, many times over -/
def oMulT (x y : O) : Option O := match x, y with
  | .fz (.tuple ds), .fz (.int k) => if ds.length ≠ 0 ∧ 2 ≤ k ∧ k ≤ 1000 ∧ ds.length ≤ 1000 then some (.fz (.tuple (List.replicate k.toNat ds).flatten)) else none
  | _, _ => none
theorem ov_mulT {k : Kc} : OpV k (rRepT k.K) oMulT := by
  intro F H S x y ox oy o Q f off th wx wy e h
  unfold oMulT at e
  split at e
  · rename_i ds i
    split at e
    · rename_i hz
      cases e
      have ei := wy.int
      have r := wx.rep
      cases r with
      | @tup a vs _ q1 q2 =>
        refine ⟨a, i, vs, rfl, ei, SqT.of (tup_le f q1), ?_, hz.2.1, hz.2.2.1, by rw [q2.length]; exact hz.2.2.2, fun p hp => ?_⟩
        · rintro rfl
          have := q2.length
          exact hz.1 this.symm
        · have x := Xt.new (o := .tup (List.replicate i.toNat vs).flatten) f hp
          exact h _ _ _ x (.fz (.tup upd_same ((q2.rep _).sub x.sub)))
      | dic _ _ e => cases e
      | dit _ _ e => cases e
    · cases e
  · cases e
@[simp] theorem oMulT_t {ds : List PD} {k : Int} : oMulT (.fz (.tuple ds)) (.fz (.int k)) = if ds.length ≠ 0 ∧ 2 ≤ k ∧ k ≤ 1000 ∧ ds.length ≤ 1000 then some (.fz (.tuple (List.replicate k.toNat ds).flatten)) else none := rfl
end FM
namespace FM
open PySem PySem.Spec L2 PyProof.Rows
/-! ### tuple(range(n)) -/
noncomputable def qTrg1 (a : QE) : QE := fun ρ => match a ρ with
  | some (.fz (.int n)) => if big62 n && decide (n.toNat ≤ 2 ^ 24) then some (.fz (.tuple (rngD 0 n.toNat))) else none
  | _ => none
theorem tev_trg1 {k : Kc} {te : TE} {qa : QE} (ha : TEv k te qa) : TEv k (tTupRg (tRg1 te)) (qTrg1 qa) := by
  intro F H σ ρ S o Q q e h
  unfold qTrg1 at e
  split at e
  · rename_i n e1
    split at e
    · rename_i hz
      simp only [Bool.and_eq_true, decide_eq_true_eq] at hz
      have e' := Option.some.inj e
      subst e'
      refine ha F H σ ρ S _ _ q e1 fun v F1 H1 x1 w1 => ?_
      have b := big62_ok hz.1
      refine ⟨n, w1.int, ⟨by decide, by decide, b.1, b.2, by rw [Int.sub_zero]; exact hz.2⟩, ?_⟩
      have r := reps_rg (K := k.K) (F := F1) 0 n
      rw [Int.sub_zero] at r
      exact new_tuple x1.fle r fun v F' H' x w => h v F' H' (x1.trans x) w
    · cases e
  · cases e
theorem qTrg1_n {a : QE} {ρ : List O} {n : Nat} (hn : n ≤ 1000000) (h : a ρ = some (.fz (.int (n : Int)))) : qTrg1 a ρ = some (.fz (.tuple (rngD 0 n))) := by
  have hb : big62 (n : Int) = true := big62_s (by omega) (by omega)
  unfold qTrg1
  rw [h]
  have : n ≤ 2 ^ 24 := by omega
  simp [hb, this]
end FM
namespace FM
open PySem PySem.Spec L2 PyProof.Rows
def topS (i : Nat) : Stmt := PySem.Challenge.pw_frameshare_k11_pairs_that_clash.main.body.getD i (.Pass ⟨0, 0, 0, 0⟩)
def clsS (i j : Nat) : Stmt := match topS i with
  | .ClassDef _ _ _ b _ _ _ _ _ _ _ => b.getD j (.Pass ⟨0, 0, 0, 0⟩)
  | _ => .Pass ⟨0, 0, 0, 0⟩
structure Fct (K : Frag) (cl : Nat → Addr) (mg : Str → Option Value) : Prop where
  c_Walk : Cls K (cl 0)
  n_Walk_rows : NoAttr K (cl 0) "rows"
  n_Walk_written : NoAttr K (cl 0) "written"
  n_Walk_held_out : NoAttr K (cl 0) "held_out"
  n_Walk_right : NoAttr K (cl 0) "right"
  c_Flow : Cls K (cl 1)
  n_Flow_nexts : NoAttr K (cl 1) "nexts"
  f_abs : mg "abs" = none
  f_all : mg "all" = none
  f_any : mg "any" = none
  f_bool : mg "bool" = none
  f_enumerate : mg "enumerate" = none
  f_int : mg "int" = none
  f_isinstance : mg "isinstance" = none
  f_len : mg "len" = none
  f_list : mg "list" = none
  f_max : mg "max" = none
  f_min : mg "min" = none
  f_range : mg "range" = none
  f_set : mg "set" = none
  f_sorted : mg "sorted" = none
  f_str : mg "str" = none
  f_tuple : mg "tuple" = none
  f_zip : mg "zip" = none
  g_BACK : ∃ t, mg "BACK" = some (.str "back" t)
  g_EITHER : ∃ t, mg "EITHER" = some (.str "either" t)
  g_GIVE : ∃ t, mg "GIVE" = some (.str "give" t)
  g_ROUND : ∃ t, mg "ROUND" = some (.str "round" t)
section
variable {P : Program} {w : World} {K : Frag} {mg : Str → Option Value} {base : Heap} {cl : Nat → Addr}
abbrev s__law_tape : Stmt := topS 21
theorem sc__law_tape : FnScope ["_law_script", "_law_k", "_law_cell"] ["_law_script", "_law_k"] (defScope s__law_tape) := ⟨rfl, rfl, rfl, by decide +kernel, rfl, by decide +kernel, by decide +kernel⟩
noncomputable def m__law_tape : MS := (sSeq (sSet 2 (mLift (qIf (qB (qOp oLt (qVar 1) (qCb oLen (qCons (qVar 0) qNil)))) (qOp oIx (qVar 0) (qVar 1)) (qC (.int 0))))) (sRet (mNew (qLst (qCons (qOp oMul (qCb oAbs (qCons (qVar 2) qNil)) (qCb oInt (qCons (qOp oGe (qCb oAbs (qCons (qVar 2) qNil)) (qOp oPow (qC (.int 10)) (qC (.int 18)))) qNil))) (qCons (qOp oAdd (qOp oAdd (qOp oMod (qVar 2) (qC (.int 2305843009213693951))) (qOp oMul (qC (.int 39373)) (qVar 1))) (qC (.int 17))) (qCons (qC (.int 0)) qNil)))))))
noncomputable def f__law_tape : List O → FR := defN 1 [false, false] m__law_tape
theorem ok__law_tape {f : Addr} {fd : FuncData} (Fc : Fct K cl mg) (F : FunD K "_law_tape" "_law_tape" (defArgs s__law_tape) (defBody s__law_tape) (defScope s__law_tape) [] [] f fd) (g : mg "_law_tape" = some (.ref f)) : CalG P w K mg base 1 "_law_tape" (spM ⟨K, cl⟩ 2 f__law_tape) := by
  refine ⟨f, fd, ["_law_script", "_law_k"], ?_, g, F.kp, F.bindsN fun _ _ _ _ _ _ us hl => match us, hl with | [_, _], _ => rfl⟩
  refine def_okN (io := [false, false]) (more := 1) (m := m__law_tape) F sc__law_tape rfl rfl ?_
  intro cdv A outer s H E hr
  exact ⟨_, _, (pss_cons (ps_set (i := 2) sc__law_tape.nd rfl (.inl rfl) (pe_ifExp (pt_cmpR op_lt (pv 1) (pe_callB call_lenU rfl Fc.f_len (by rfl) (pa_cons (pv 0) pa_nil)) (nomark _)) (pe_ix (ix_U hr.u1) (pv 0) (pv 1) (fun _ _ => rfl)) pe_int)) (pss_one (ps_ret (pe_lst (pa_cons (pe_op op_mulU (pe_callB call_abs rfl Fc.f_abs (by rfl) (pa_cons (pv 2) pa_nil)) (pe_callTy call_intU rfl Fc.f_int (by rfl) (pa_cons (pe_cmpR op_ge (pe_callB call_abs rfl Fc.f_abs (by rfl) (pa_cons (pv 2) pa_nil)) (pe_op op_pow pe_int pe_int) (nomark _)) pa_nil))) (pa_cons (pe_op op_addU (pe_op op_addU (pe_op op_mod (pv 2) pe_int) (pe_op op_mulU pe_int (pv 1))) pe_int) (pa_cons pe_int pa_nil))))))), (tsm_seq (tsm_set (tem_lift (tev_if (ttv_test (tev_op (tev_var (i := 1)) (tev_cb (tav_cons (tev_var (i := 0)) tav_nil) cb_len) ov_lt)) (tev_op (tev_var (i := 0)) (tev_var (i := 1)) ov_ix) (tev_c fun _ => .int _)))) (tsm_ret (tem_new (ten_lst (tav_cons (tev_op (tev_cb (tav_cons (tev_var (i := 2)) tav_nil) cb_abs) (tev_cb (tav_cons (tev_op (tev_cb (tav_cons (tev_var (i := 2)) tav_nil) cb_abs) (tev_op (tev_c fun _ => .int _) (tev_c fun _ => .int _) ov_pow) ov_ge) tav_nil) cb_int) ov_mul) (tav_cons (tev_op (tev_op (tev_op (tev_var (i := 2)) (tev_c fun _ => .int _) ov_mod) (tev_op (tev_c fun _ => .int _) (tev_var (i := 1)) ov_mul) ov_add) (tev_c fun _ => .int _) ov_add) (tav_cons (tev_c fun _ => .int _) tav_nil))))))), by decide⟩
abbrev s__law_draw : Stmt := topS 22
theorem sc__law_draw : FnScope ["_law_tape_here", "_law_many", "_law_found", "_law_once", "_law_twice"] ["_law_tape_here", "_law_many"] (defScope s__law_draw) := ⟨rfl, rfl, rfl, by decide +kernel, rfl, by decide +kernel, by decide +kernel⟩
noncomputable def m__law_draw : MS := (sSeq (sIf (bLift (qB (qOp oGt (qOp oIx (qVar 0) (qC (.int 0))) (qC (.int 0))))) (sSeq (sSet 2 (mLift (qOp oMod (qOp oIx (qVar 0) (qC (.int 0))) (qVar 1)))) (sSeq (sSetU 0 (qC (.int 0)) (mLift (qOp oDiv (qOp oIx (qVar 0) (qC (.int 0))) (qVar 1)))) (sRet (mLift (qVar 2))))) sNext) (sSeq (sSetU 0 (qC (.int 2)) (mLift (qOp oAdd (qOp oIx (qVar 0) (qC (.int 2))) (qC (.int 1))))) (sSeq (sSet 3 (mLift (qOp oMod (qOp oPow (qOp oAdd (qOp oIx (qVar 0) (qC (.int 1))) (qOp oMul (qC (.int 39373)) (qOp oIx (qVar 0) (qC (.int 2))))) (qC (.int 5))) (qC (.int 2147483647))))) (sSeq (sSet 4 (mLift (qOp oMod (qOp oMul (qOp oAdd (qVar 3) (qOp oIx (qVar 0) (qC (.int 2)))) (qOp oAdd (qOp oAdd (qOp oMod (qVar 3) (qC (.int 40009))) (qC (.int 7))) (qOp oIx (qVar 0) (qC (.int 2))))) (qC (.int 2147483629))))) (sRet (mLift (qOp oMod (qOp oDiv (qOp oMod (qOp oAdd (qOp oMul (qVar 4) (qC (.int 48271))) (qVar 3)) (qC (.int 2147483587))) (qC (.int 64))) (qVar 1))))))))
noncomputable def f__law_draw : List O → FR := defN 3 [true, false] m__law_draw
theorem ok__law_draw {f : Addr} {fd : FuncData} (Fc : Fct K cl mg) (F : FunD K "_law_draw" "_law_draw" (defArgs s__law_draw) (defBody s__law_draw) (defScope s__law_draw) [] [] f fd) (g : mg "_law_draw" = some (.ref f)) : CalG P w K mg base 1 "_law_draw" (spM ⟨K, cl⟩ 2 f__law_draw) := by
  refine ⟨f, fd, ["_law_tape_here", "_law_many"], ?_, g, F.kp, F.bindsN fun _ _ _ _ _ _ us hl => match us, hl with | [_, _], _ => rfl⟩
  refine def_okN (io := [true, false]) (more := 3) (m := m__law_draw) F sc__law_draw rfl rfl ?_
  intro cdv A outer s H E hr
  exact ⟨_, _, (pss_cons (ps_if (pt_cmpR op_gt (pe_ix (ix_U hr.u1) (pv 0) pe_int (fun _ _ => rfl)) pe_int (nomark _)) (pss_cons (ps_set (i := 2) sc__law_draw.nd rfl (.inl rfl) (pe_op op_mod (pe_ix (ix_U hr.u1) (pv 0) pe_int (fun _ _ => rfl)) (pv 1))) (pss_cons (ps_asg (pe_op op_fdivW (pe_ix (ix_U hr.u1) (pv 0) pe_int (fun _ _ => rfl)) (pv 1)) (pg_sub (pv 0) pe_int (set_U hr.u1))) (pss_one (ps_ret (pv 2))))) pss_nil) (pss_cons (ps_asg (pe_op op_addU (pe_ix (ix_U hr.u1) (pv 0) pe_int (fun _ _ => rfl)) pe_int) (pg_sub (pv 0) pe_int (set_U hr.u1))) (pss_cons (ps_set (i := 3) sc__law_draw.nd rfl (.inl rfl) (pe_op op_mod (pe_op op_pow (pe_op op_addU (pe_ix (ix_U hr.u1) (pv 0) pe_int (fun _ _ => rfl)) (pe_op op_mulU pe_int (pe_ix (ix_U hr.u1) (pv 0) pe_int (fun _ _ => rfl)))) pe_int) pe_int)) (pss_cons (ps_set (i := 4) sc__law_draw.nd rfl (.inl rfl) (pe_op op_mod (pe_op op_mulU (pe_op op_addU (pv 3) (pe_ix (ix_U hr.u1) (pv 0) pe_int (fun _ _ => rfl))) (pe_op op_addU (pe_op op_addU (pe_op op_mod (pv 3) pe_int) pe_int) (pe_ix (ix_U hr.u1) (pv 0) pe_int (fun _ _ => rfl)))) pe_int)) (pss_one (ps_ret (pe_op op_mod (pe_op op_fdivW (pe_op op_mod (pe_op op_addU (pe_op op_mulU (pv 4) pe_int) (pv 3)) pe_int) pe_int) (pv 1)))))))), (tsm_seq (tsm_if (ttm_lift (ttv_test (tev_op (tev_op (tev_var (i := 0)) (tev_c fun _ => .int _) ov_ix) (tev_c fun _ => .int _) ov_gt))) (tsm_seq (tsm_set (tem_lift (tev_op (tev_op (tev_var (i := 0)) (tev_c fun _ => .int _) ov_ix) (tev_var (i := 1)) ov_mod))) (tsm_seq (tsm_setU (tem_lift (tev_op (tev_op (tev_var (i := 0)) (tev_c fun _ => .int _) ov_ix) (tev_var (i := 1)) ov_div)) (tev_c fun _ => .int _)) (tsm_ret (tem_lift (tev_var (i := 2)))))) tsm_next) (tsm_seq (tsm_setU (tem_lift (tev_op (tev_op (tev_var (i := 0)) (tev_c fun _ => .int _) ov_ix) (tev_c fun _ => .int _) ov_add)) (tev_c fun _ => .int _)) (tsm_seq (tsm_set (tem_lift (tev_op (tev_op (tev_op (tev_op (tev_var (i := 0)) (tev_c fun _ => .int _) ov_ix) (tev_op (tev_c fun _ => .int _) (tev_op (tev_var (i := 0)) (tev_c fun _ => .int _) ov_ix) ov_mul) ov_add) (tev_c fun _ => .int _) ov_pow) (tev_c fun _ => .int _) ov_mod))) (tsm_seq (tsm_set (tem_lift (tev_op (tev_op (tev_op (tev_var (i := 3)) (tev_op (tev_var (i := 0)) (tev_c fun _ => .int _) ov_ix) ov_add) (tev_op (tev_op (tev_op (tev_var (i := 3)) (tev_c fun _ => .int _) ov_mod) (tev_c fun _ => .int _) ov_add) (tev_op (tev_var (i := 0)) (tev_c fun _ => .int _) ov_ix) ov_add) ov_mul) (tev_c fun _ => .int _) ov_mod))) (tsm_ret (tem_lift (tev_op (tev_op (tev_op (tev_op (tev_op (tev_var (i := 4)) (tev_c fun _ => .int _) ov_mul) (tev_var (i := 3)) ov_add) (tev_c fun _ => .int _) ov_mod) (tev_c fun _ => .int _) ov_div) (tev_var (i := 1)) ov_mod))))))), by decide⟩
abbrev s__law_things : Stmt := topS 23
theorem sc__law_things : FnScope ["_law_tape_here", "_law_many", "_law_way", "_law_found", "_law_k", "_law_size", "_law_border"] ["_law_tape_here", "_law_many"] (defScope s__law_things) := ⟨rfl, rfl, rfl, by decide +kernel, rfl, by decide +kernel, by decide +kernel⟩
noncomputable def m__law_things : MS := (sSeq (sPar 2 3 (mCons (frzM (mCall f__law_draw [some 0, none] (mRef 0 (mCons (mLift (qC (.int 4))) mNil)))) (mCons (mNew (qLst qNil)) mNil))) (sSeq (sFor (iLift (qRng1 (qCons (qVar 1) qNil))) (fName 4) (sSeq (sSet 5 (mOp oIx (frzM (mLst (mCons (mOp oAdd (mLift (qC (.int 1))) (frzM (mCall f__law_draw [some 0, none] (mRef 0 (mCons (mLift (qC (.int 9))) mNil))))) (mCons (mLift (qC (.int 8))) (mCons (mOp oAdd (mLift (qC (.int 1))) (frzM (mCall f__law_draw [some 0, none] (mRef 0 (mCons (mLift (qC (.int 3))) mNil))))) (mCons (mOp oAdd (mLift (qC (.int 1))) (frzM (mCall f__law_draw [some 0, none] (mRef 0 (mCons (mLift (qOp oPow (qC (.int 10)) (qC (.int 9)))) mNil))))) mNil)))))) (mLift (qVar 2)))) (sSeq (sSet 6 (mOp oIx (frzM (mLst (mCons (mLift (qC (.int 1))) (mCons (mLift (qC (.int 1))) (mCons (mLift (qC (.int 2))) (mCons (mLift (qC (.int 4))) (mCons (mLift (qC (.int 8))) (mCons (mLift (qC (.int 3))) (mCons (mLift (qC (.int 6))) (mCons (mOp oAdd (mLift (qC (.int 1))) (frzM (mCall f__law_draw [some 0, none] (mRef 0 (mCons (mLift (qC (.int 64))) mNil))))) mNil)))))))))) (frzM (mCall f__law_draw [some 0, none] (mRef 0 (mCons (mLift (qC (.int 8))) mNil)))))) (sDrop (mMt 3 fAppend (mCons (mTup (mCons (mLift (qVar 5)) (mCons (mOp oIx (frzM (mLst (mCons (mLift (qVar 6)) (mCons (mOp oIx (mLift (qFz (qLst (qCons (qC (.int 1)) (qCons (qC (.int 2)) (qCons (qC (.int 4)) (qCons (qC (.int 8)) qNil))))))) (frzM (mCall f__law_draw [some 0, none] (mRef 0 (mCons (mLift (qC (.int 4))) mNil))))) mNil)))) (mLift (qCb oInt (qCons (qOp oEq (qVar 2) (qC (.int 1))) qNil)))) mNil))) mNil)))))) (sRet (mLift (qCb oTuple (qCons (qVar 3) qNil))))))
noncomputable def f__law_things : List O → FR := defN 5 [true, false] m__law_things
theorem ok__law_things {f : Addr} {fd : FuncData} (Fc : Fct K cl mg) (F : FunD K "_law_things" "_law_things" (defArgs s__law_things) (defBody s__law_things) (defScope s__law_things) [] [] f fd) (g : mg "_law_things" = some (.ref f)) (c__law_draw : CalG P w K mg base 1 "_law_draw" (spM ⟨K, cl⟩ 2 f__law_draw)) : CalG P w K mg base 2 "_law_things" (spM ⟨K, cl⟩ 2 f__law_things) := by
  refine ⟨f, fd, ["_law_tape_here", "_law_many"], ?_, g, F.kp, F.bindsN fun _ _ _ _ _ _ us hl => match us, hl with | [_, _], _ => rfl⟩
  refine def_okN (io := [true, false]) (more := 5) (m := m__law_things) F sc__law_things rfl rfl ?_
  intro cdv A outer s H E hr
  exact ⟨_, _, (pss_cons (ps_par (i := 2) (j := 3) rfl sc__law_things.nd rfl rfl (by decide) rfl rfl (pa_cons (pe_g c__law_draw hr (by decide) passL rfl (pa_cons (pv 0) (pa_cons pe_int pa_nil))) (pa_cons (pe_lst pa_nil) pa_nil)) rfl) (pss_cons (ps_for PassesOwn.never rfl (pi_range1 rfl Fc.f_range (pa_cons (pv 1) pa_nil)) (pg_name (i := 4) sc__law_things.nd rfl (.inl rfl)) (pss_cons (ps_set (i := 5) sc__law_things.nd rfl (.inl rfl) (pe_ix (ix_U hr.u1) (pe_lst (pa_cons (pe_op op_addU pe_int (pe_g c__law_draw hr (by decide) passL rfl (pa_cons (pv 0) (pa_cons pe_int pa_nil)))) (pa_cons pe_int (pa_cons (pe_op op_addU pe_int (pe_g c__law_draw hr (by decide) passL rfl (pa_cons (pv 0) (pa_cons pe_int pa_nil)))) (pa_cons (pe_op op_addU pe_int (pe_g c__law_draw hr (by decide) passL rfl (pa_cons (pv 0) (pa_cons (pe_op op_pow pe_int pe_int) pa_nil)))) pa_nil))))) (pv 2) (fun _ _ => rfl))) (pss_cons (ps_set (i := 6) sc__law_things.nd rfl (.inl rfl) (pe_ix (ix_U hr.u1) (pe_lst (pa_cons pe_int (pa_cons pe_int (pa_cons pe_int (pa_cons pe_int (pa_cons pe_int (pa_cons pe_int (pa_cons pe_int (pa_cons (pe_op op_addU pe_int (pe_g c__law_draw hr (by decide) passL rfl (pa_cons (pv 0) (pa_cons pe_int pa_nil)))) pa_nil))))))))) (pe_g c__law_draw hr (by decide) passL rfl (pa_cons (pv 0) (pa_cons pe_int pa_nil))) (fun _ _ => rfl))) (pss_one (ps_expr (pe_bm PySem.F.plainAttrs_list PySem.F.slot_list_append PySem.F.type_list_append mt_append (pv 3) (pa_cons (pe_tup (pa_cons (pv 5) (pa_cons (pe_ix (ix_U hr.u1) (pe_lst (pa_cons (pv 6) (pa_cons (pe_ix (ix_U hr.u1) (pe_lst (pa_cons pe_int (pa_cons pe_int (pa_cons pe_int (pa_cons pe_int pa_nil))))) (pe_g c__law_draw hr (by decide) passL rfl (pa_cons (pv 0) (pa_cons pe_int pa_nil))) (fun _ _ => rfl)) pa_nil))) (pe_callTy call_intU rfl Fc.f_int (by rfl) (pa_cons (pe_cmpR (op_eqU hr.u64) (pv 2) pe_int (nomark _)) pa_nil)) (fun _ _ => rfl)) pa_nil))) pa_nil))))))) (pss_one (ps_ret (pe_callTy call_tuple_of rfl Fc.f_tuple (by rfl) (pa_cons (pv 3) pa_nil)))))), (tsm_seq (tsm_par (tam_val (tem_frz (tem_call rfl (tam_ref (tam_val (tem_lift (tev_c fun _ => .int _)) tam_nil)))) (tam_val (tem_new (ten_lst tav_nil)) tam_nil))) (tsm_seq (tsm_for (tim_lift (tif_rng1 (tav_cons (tev_var (i := 1)) tav_nil))) tgq_name (tsm_seq (tsm_set (tem_op (tem_frz (tem_lst (tam_val (tem_op (tem_lift (tev_c fun _ => .int _)) (tem_frz (tem_call rfl (tam_ref (tam_val (tem_lift (tev_c fun _ => .int _)) tam_nil)))) ov_add) (tam_val (tem_lift (tev_c fun _ => .int _)) (tam_val (tem_op (tem_lift (tev_c fun _ => .int _)) (tem_frz (tem_call rfl (tam_ref (tam_val (tem_lift (tev_c fun _ => .int _)) tam_nil)))) ov_add) (tam_val (tem_op (tem_lift (tev_c fun _ => .int _)) (tem_frz (tem_call rfl (tam_ref (tam_val (tem_lift (tev_op (tev_c fun _ => .int _) (tev_c fun _ => .int _) ov_pow)) tam_nil)))) ov_add) tam_nil)))))) (tem_lift (tev_var (i := 2))) ov_ix)) (tsm_seq (tsm_set (tem_op (tem_frz (tem_lst (tam_val (tem_lift (tev_c fun _ => .int _)) (tam_val (tem_lift (tev_c fun _ => .int _)) (tam_val (tem_lift (tev_c fun _ => .int _)) (tam_val (tem_lift (tev_c fun _ => .int _)) (tam_val (tem_lift (tev_c fun _ => .int _)) (tam_val (tem_lift (tev_c fun _ => .int _)) (tam_val (tem_lift (tev_c fun _ => .int _)) (tam_val (tem_op (tem_lift (tev_c fun _ => .int _)) (tem_frz (tem_call rfl (tam_ref (tam_val (tem_lift (tev_c fun _ => .int _)) tam_nil)))) ov_add) tam_nil)))))))))) (tem_frz (tem_call rfl (tam_ref (tam_val (tem_lift (tev_c fun _ => .int _)) tam_nil)))) ov_ix)) (tsm_drop (tem_mt (tam_val (tem_tup (tam_val (tem_lift (tev_var (i := 5))) (tam_val (tem_op (tem_frz (tem_lst (tam_val (tem_lift (tev_var (i := 6))) (tam_val (tem_op (tem_lift (tev_n (ten_lst (tav_cons (tev_c fun _ => .int _) (tav_cons (tev_c fun _ => .int _) (tav_cons (tev_c fun _ => .int _) (tav_cons (tev_c fun _ => .int _) tav_nil))))))) (tem_frz (tem_call rfl (tam_ref (tam_val (tem_lift (tev_c fun _ => .int _)) tam_nil)))) ov_ix) tam_nil)))) (tem_lift (tev_cb (tav_cons (tev_op (tev_var (i := 2)) (tev_c fun _ => .int _) ov_eq) tav_nil) cb_int)) ov_ix) tam_nil))) tam_nil) lm_append))))) (tsm_ret (tem_lift (tev_cb (tav_cons (tev_var (i := 3)) tav_nil) cb_tuple))))), by decide⟩
abbrev s__law_row : Stmt := topS 24
theorem sc__law_row : FnScope ["_law_tape_here", "_law_state", "_law_left", "_law_reads", "_law_k", "_law_write"] ["_law_tape_here", "_law_state"] (defScope s__law_row) := ⟨rfl, rfl, rfl, by decide +kernel, rfl, by decide +kernel, by decide +kernel⟩
noncomputable def m__law_row : MS := (sSeq (sPar 2 3 (mCons (mNew (qCb oList (qCons (qOp oIx (qVar 1) (qC (.str "written"))) qNil))) (mCons (mNew (qLst qNil)) mNil))) (sSeq (sFor (iRng1M (mCb oMin2 (mCons (mLift (qCb oLen (qCons (qVar 2) qNil))) (mCons (frzM (mCall f__law_draw [some 0, none] (mRef 0 (mCons (mLift (qC (.int 4))) mNil)))) mNil)))) (fName 4) (sDrop (mMt 3 fAppend (mCons (mMt 2 fPopAt (mCons (frzM (mCall f__law_draw [some 0, none] (mRef 0 (mCons (mLift (qCb oLen (qCons (qVar 2) qNil))) mNil)))) mNil)) mNil)))) (sSeq (sSet 5 (mIf (bAnd (bLift (qB (qOp oGt (qOp oIx (qVar 1) (qC (.str "many"))) (qC (.int 0))))) (bTest (mOp oGt (frzM (mCall f__law_draw [some 0, none] (mRef 0 (mCons (mLift (qC (.int 5))) mNil)))) (mLift (qC (.int 0)))))) (frzM (mCall f__law_draw [some 0, none] (mRef 0 (mCons (mLift (qOp oIx (qVar 1) (qC (.str "many")))) mNil)))) (mLift (qC (.none))))) (sSeq (sIf (bLift (qAnd (qB (qOp oNotN (qVar 5) (qC (.none)))) (qB (qOp oNin (qVar 5) (qOp oIx (qVar 1) (qC (.str "written"))))))) (sDrop (mMtE 1 "written" fAppend (qCons (qVar 5) qNil))) sNext) (sRet (mLift (qTup (qCons (qC (.str "row")) (qCons (qCb oTuple (qCons (qVar 3) qNil)) (qCons (qVar 5) qNil))))))))))
noncomputable def f__law_row : List O → FR := defN 4 [true, true] m__law_row
theorem ok__law_row {f : Addr} {fd : FuncData} (Fc : Fct K cl mg) (F : FunD K "_law_row" "_law_row" (defArgs s__law_row) (defBody s__law_row) (defScope s__law_row) [] [] f fd) (g : mg "_law_row" = some (.ref f)) (c__law_draw : CalG P w K mg base 1 "_law_draw" (spM ⟨K, cl⟩ 2 f__law_draw)) : CalG P w K mg base 2 "_law_row" (spM ⟨K, cl⟩ 2 f__law_row) := by
  refine ⟨f, fd, ["_law_tape_here", "_law_state"], ?_, g, F.kp, F.bindsN fun _ _ _ _ _ _ us hl => match us, hl with | [_, _], _ => rfl⟩
  refine def_okN (io := [true, true]) (more := 4) (m := m__law_row) F sc__law_row rfl rfl ?_
  intro cdv A outer s H E hr
  exact ⟨_, _, (pss_cons (ps_par (i := 2) (j := 3) rfl sc__law_row.nd rfl rfl (by decide) rfl rfl (pa_cons (pe_callTy call_list_of rfl Fc.f_list (by rfl) (pa_cons (pe_ix (ix_U hr.u1) (pv 1) pe_str (fun _ _ => rfl)) pa_nil)) (pa_cons (pe_lst pa_nil) pa_nil)) rfl) (pss_cons (ps_for PassesOwn.never rfl (pi_range1 rfl Fc.f_range (pa_cons (pe_callB (call_min2 rfl) rfl Fc.f_min (by rfl) (pa_cons (pe_callB call_lenU rfl Fc.f_len (by rfl) (pa_cons (pv 2) pa_nil)) (pa_cons (pe_g c__law_draw hr (by decide) passL rfl (pa_cons (pv 0) (pa_cons pe_int pa_nil))) pa_nil))) pa_nil)) (pg_name (i := 4) sc__law_row.nd rfl (.inl rfl)) (pss_one (ps_expr (pe_bm PySem.F.plainAttrs_list PySem.F.slot_list_append PySem.F.type_list_append mt_append (pv 3) (pa_cons (pe_bm PySem.F.plainAttrs_list PySem.F.slot_list_pop PySem.F.type_list_pop mt_popAt (pv 2) (pa_cons (pe_g c__law_draw hr (by decide) passL rfl (pa_cons (pv 0) (pa_cons (pe_callB call_lenU rfl Fc.f_len (by rfl) (pa_cons (pv 2) pa_nil)) pa_nil))) pa_nil)) pa_nil))))) (pss_cons (ps_set (i := 5) sc__law_row.nd rfl (.inl rfl) (pe_ifExp (PW.pt (pw_and (pt_cmpR op_gt (pe_ix (ix_U hr.u1) (pv 1) pe_str (fun _ _ => rfl)) pe_int (nomark _)) (pw_and1 (pt_cmpR op_gt (pe_g c__law_draw hr (by decide) passL rfl (pa_cons (pv 0) (pa_cons pe_int pa_nil))) pe_int (nomark _))))) (pe_g c__law_draw hr (by decide) passL rfl (pa_cons (pv 0) (pa_cons (pe_ix (ix_U hr.u1) (pv 1) pe_str (fun _ _ => rfl)) pa_nil))) pe_non)) (pss_cons (ps_if (PW.pt (pw_and (pt_cmpR op_notN (pv 5) pe_non (nomark _)) (pw_and1 (pt_cmpR (op_ninU hr.u65) (pv 5) (pe_ix (ix_U hr.u1) (pv 1) pe_str (fun _ _ => rfl)) (by with_unfolding_all rfl))))) (pss_one (ps_expr (pe_bm PySem.F.plainAttrs_list PySem.F.slot_list_append PySem.F.type_list_append mt_append (pe_ix (ix_U hr.u1) (pv 1) pe_str (fun _ _ => rfl)) (pa_cons (pv 5) pa_nil)))) pss_nil) (pss_one (ps_ret (pe_tup (pa_cons pe_str (pa_cons (pe_callTy call_tuple_of rfl Fc.f_tuple (by rfl) (pa_cons (pv 3) pa_nil)) (pa_cons (pv 5) pa_nil)))))))))), (tsm_seq (tsm_par (tam_val (tem_new (ten_cb (tav_cons (tev_op (tev_var (i := 1)) (tev_c fun _ => .str _) ov_ix) tav_nil) cn_list)) (tam_val (tem_new (ten_lst tav_nil)) tam_nil))) (tsm_seq (tsm_for (tim_rng1 (tem_cb (tam_val (tem_lift (tev_cb (tav_cons (tev_var (i := 2)) tav_nil) cb_len)) (tam_val (tem_frz (tem_call rfl (tam_ref (tam_val (tem_lift (tev_c fun _ => .int _)) tam_nil)))) tam_nil)) cb_min2)) tgq_name (tsm_drop (tem_mt (tam_val (tem_mt (tam_val (tem_frz (tem_call rfl (tam_ref (tam_val (tem_lift (tev_cb (tav_cons (tev_var (i := 2)) tav_nil) cb_len)) tam_nil)))) tam_nil) lm_popAt) tam_nil) lm_append))) (tsm_seq (tsm_set (tem_if (ttm_and (ttm_lift (ttv_test (tev_op (tev_op (tev_var (i := 1)) (tev_c fun _ => .str _) ov_ix) (tev_c fun _ => .int _) ov_gt))) (ttm_test (tem_op (tem_frz (tem_call rfl (tam_ref (tam_val (tem_lift (tev_c fun _ => .int _)) tam_nil)))) (tem_lift (tev_c fun _ => .int _)) ov_gt))) (tem_frz (tem_call rfl (tam_ref (tam_val (tem_lift (tev_op (tev_var (i := 1)) (tev_c fun _ => .str _) ov_ix)) tam_nil)))) (tem_lift (tev_c fun _ => .non)))) (tsm_seq (tsm_if (ttm_lift (ttv_and (ttv_test (tev_op (tev_var (i := 5)) (tev_c fun _ => .non) ov_notN)) (ttv_test (tev_op (tev_var (i := 5)) (tev_op (tev_var (i := 1)) (tev_c fun _ => .str _) ov_ix) ov_nin)))) (tsm_drop (tem_mtE (tav_cons (tev_var (i := 5)) tav_nil) lm_append)) tsm_next) (tsm_ret (tem_lift (tev_tup (tav_cons (tev_c fun _ => .str _) (tav_cons (tev_cb (tav_cons (tev_var (i := 3)) tav_nil) cb_tuple) (tav_cons (tev_var (i := 5)) tav_nil)))))))))), by decide⟩
abbrev s__law_parted : Stmt := topS 25
theorem sc__law_parted : FnScope ["_law_tape_here", "_law_state", "_law_depth", "_law_ahead", "_law_one", "_law_by_one", "_law_other", "_law_t"] ["_law_tape_here", "_law_state", "_law_depth"] (defScope s__law_parted) := ⟨rfl, rfl, rfl, by decide +kernel, rfl, by decide +kernel, by decide +kernel⟩
noncomputable def m__law_parted (r__law_parted : List O → FR) (r__law_items : List O → FR) : MS := (sSeq (sSet 3 (mNew (qCb oList (qCons (qOp oIx (qVar 1) (qC (.str "written"))) qNil)))) (sSeq (sSet 4 (frzM (mCall r__law_items [some 0, some 1, none] (mRef 0 (mRef 1 (mCons (mLift (qOp oSub (qVar 2) (qC (.int 1)))) mNil)))))) (sSeq (sIf (bTest (mOp oEq (frzM (mCall f__law_draw [some 0, none] (mRef 0 (mCons (mLift (qC (.int 2))) mNil)))) (mLift (qC (.int 0))))) (sSeq (sSetE 1 "written" (mMove 3)) (sRet (mLift (qTup (qCons (qC (.str "round")) (qCons (qVar 4) qNil)))))) sNext) (sSeq (sAsgM (tTup 2 (tCons2 (tName 5) (tCons2 (tEnt 1 "written") tNil2))) (mTup (mCons (mMoveE 1 "written") (mCons (mNew (qCb oList (qCons (qVar 3) qNil))) mNil)))) (sSeq (sSet 6 (frzM (mCall r__law_items [some 0, some 1, none] (mRef 0 (mRef 1 (mCons (mLift (qOp oSub (qVar 2) (qC (.int 1)))) mNil)))))) (sSeq (sSetE 1 "written" (mNew (qLc (qItA (qVar 5)) (fName 7) (qB (qOp oIn (qVar 7) (qOp oIx (qVar 1) (qC (.str "written"))))) (qVar 7) [7]))) (sRet (mLift (qTup (qCons (qC (.str "either")) (qCons (qVar 4) (qCons (qVar 6) qNil))))))))))))
theorem ok__law_parted {j : Nat} (hj : 2 ≤ j) {r__law_parted r__law_items : List O → FR} {f : Addr} {fd : FuncData} (Fc : Fct K cl mg) (F : FunD K "_law_parted" "_law_parted" (defArgs s__law_parted) (defBody s__law_parted) (defScope s__law_parted) [] [] f fd) (g : mg "_law_parted" = some (.ref f)) (c__law_draw : CalG P w K mg base 1 "_law_draw" (spM ⟨K, cl⟩ 2 f__law_draw)) (c__law_parted : CalG P w K mg base j "_law_parted" (spM ⟨K, cl⟩ 3 r__law_parted)) (c__law_items : CalG P w K mg base j "_law_items" (spM ⟨K, cl⟩ 3 r__law_items)) : CalG P w K mg base (j + 1) "_law_parted" (spM ⟨K, cl⟩ 3 (defN 5 [true, true, false] (m__law_parted r__law_parted r__law_items))) := by
  refine ⟨f, fd, ["_law_tape_here", "_law_state", "_law_depth"], ?_, g, F.kp, F.bindsN fun _ _ _ _ _ _ us hl => match us, hl with | [_, _, _], _ => rfl⟩
  refine def_okN (io := [true, true, false]) (more := 5) (m := (m__law_parted r__law_parted r__law_items)) F sc__law_parted rfl rfl ?_
  intro cdv A outer s H E hr
  exact ⟨_, _, (pss_cons (ps_set (i := 3) sc__law_parted.nd rfl (.inl rfl) (pe_callTy call_list_of rfl Fc.f_list (by rfl) (pa_cons (pe_ix (ix_U hr.u1) (pv 1) pe_str (fun _ _ => rfl)) pa_nil))) (pss_cons (ps_set (i := 4) sc__law_parted.nd rfl (.inl rfl) (pe_g c__law_items hr (Nat.le_refl _) passL rfl (pa_cons (pv 0) (pa_cons (pv 1) (pa_cons (pe_op op_sub (pv 2) pe_int) pa_nil))))) (pss_cons (ps_if (pt_cmpR (op_eqU hr.u64) (pe_g c__law_draw hr (Nat.le_trans (by decide) hj) passL rfl (pa_cons (pv 0) (pa_cons pe_int pa_nil))) pe_int (nomark _)) (pss_cons (ps_asg (pv 3) (pg_sub (pv 1) pe_str (set_U hr.u1))) (pss_one (ps_ret (pe_tup (pa_cons pe_str (pa_cons (pv 4) pa_nil)))))) pss_nil) (pss_cons (ps_asg (pe_tup (pa_cons (pe_ix (ix_U hr.u1) (pv 1) pe_str (fun _ _ => rfl)) (pa_cons (pe_callTy call_list_of rfl Fc.f_list (by rfl) (pa_cons (pv 3) pa_nil)) pa_nil))) (pg_tup rfl (pgs_cons (pg_name (i := 5) sc__law_parted.nd rfl (.inl rfl)) (pgs_cons (pg_sub (pv 1) pe_str (set_U hr.u1)) pgs_nil)))) (pss_cons (ps_set (i := 6) sc__law_parted.nd rfl (.inl rfl) (pe_g c__law_items hr (Nat.le_refl _) passL rfl (pa_cons (pv 0) (pa_cons (pv 1) (pa_cons (pe_op op_sub (pv 2) pe_int) pa_nil))))) (pss_cons (ps_asg (pe_lc (own := [("_law_t", 7)]) rfl sc__law_parted.nd (pi_any (pv 5)) (blkOk_by (N := ["_law_tape_here", "_law_state", "_law_depth", "_law_ahead", "_law_one", "_law_by_one", "_law_other", "_law_t"]) (sc := defScope s__law_parted) (own := [("_law_t", 7)]) (by decide +kernel)) (fun _ _ _ _ _ => (pg_name (i := 7) sc__law_parted.nd rfl (.inl rfl))) (fun _ _ _ _ _ => pts_one (pt_cmpR (op_inU hr.u65) (pv 7) (pe_ix (ix_U hr.u1) (pv 1) pe_str (fun _ _ => rfl)) (by with_unfolding_all rfl))) (fun _ _ _ _ _ => (pv 7))) (pg_sub (pv 1) pe_str (set_U hr.u1))) (pss_one (ps_ret (pe_tup (pa_cons pe_str (pa_cons (pv 4) (pa_cons (pv 6) pa_nil)))))))))))), (tsm_seq (tsm_set (tem_new (ten_cb (tav_cons (tev_op (tev_var (i := 1)) (tev_c fun _ => .str _) ov_ix) tav_nil) cn_list))) (tsm_seq (tsm_set (tem_frz (tem_call rfl (tam_ref (tam_ref (tam_val (tem_lift (tev_op (tev_var (i := 2)) (tev_c fun _ => .int _) ov_sub)) tam_nil)))))) (tsm_seq (tsm_if (ttm_test (tem_op (tem_frz (tem_call rfl (tam_ref (tam_val (tem_lift (tev_c fun _ => .int _)) tam_nil)))) (tem_lift (tev_c fun _ => .int _)) ov_eq)) (tsm_seq (tsm_setE tem_move) (tsm_ret (tem_lift (tev_tup (tav_cons (tev_c fun _ => .str _) (tav_cons (tev_var (i := 4)) tav_nil)))))) tsm_next) (tsm_seq (tsm_asgM (tgm_tup (tgsm_cons tgm_name (tgsm_cons tgm_ent tgsm_nil))) (tem_tup (tam_val tem_moveE (tam_val (tem_new (ten_cb (tav_cons (tev_var (i := 3)) tav_nil) cn_list)) tam_nil)))) (tsm_seq (tsm_set (tem_frz (tem_call rfl (tam_ref (tam_ref (tam_val (tem_lift (tev_op (tev_var (i := 2)) (tev_c fun _ => .int _) ov_sub)) tam_nil)))))) (tsm_seq (tsm_setE (tem_new (ten_lc (tiv_any (tev_var (i := 5))) tgq_name (by decide) (ttv_test (tev_op (tev_var (i := 7)) (tev_op (tev_var (i := 1)) (tev_c fun _ => .str _) ov_ix) ov_in)) (tev_var (i := 7))))) (tsm_ret (tem_lift (tev_tup (tav_cons (tev_c fun _ => .str _) (tav_cons (tev_var (i := 4)) (tav_cons (tev_var (i := 6)) tav_nil)))))))))))), by decide⟩
theorem bad__law_parted {j : Nat} {g : List O → FR} (hb : g = fun _ => .bad) {f : Addr} {fd : FuncData} (Fc : Fct K cl mg) (F : FunD K "_law_parted" "_law_parted" (defArgs s__law_parted) (defBody s__law_parted) (defScope s__law_parted) [] [] f fd) (hm : mg "_law_parted" = some (.ref f)) : CalG P w K mg base j "_law_parted" (spM ⟨K, cl⟩ 3 g) := CalG.bad (ps := ["_law_tape_here", "_law_state", "_law_depth"]) hb F hm (F.bindsN fun _ _ _ _ _ _ us hl => match us, hl with | [_, _, _], _ => rfl)
abbrev s__law_items : Stmt := topS 26
theorem sc__law_items : FnScope ["_law_tape_here", "_law_state", "_law_depth", "_law_items_here", "_law_held", "_law_k", "_law_way", "_law_free", "_law_t"] ["_law_tape_here", "_law_state", "_law_depth"] (defScope s__law_items) := ⟨rfl, rfl, rfl, by decide +kernel, rfl, by decide +kernel, by decide +kernel⟩
noncomputable def m__law_items (r__law_parted : List O → FR) (r__law_items : List O → FR) : MS := (sSeq (sPar 3 4 (mCons (mNew (qLst qNil)) (mCons (mNew (qLst qNil)) mNil))) (sSeq (sFor (iRng1M (mCb oMin2 (mCons (frzM (mCall f__law_draw [some 0, none] (mRef 0 (mCons (mLift (qOp oIx (qFz (qLst (qCons (qC (.int 4)) (qCons (qC (.int 6)) (qCons (qC (.int 9)) qNil))))) (qCb oMin2 (qCons (qC (.int 2)) (qCons (qVar 2) qNil))))) mNil)))) (mCons (mLift (qOp oIx (qVar 1) (qC (.str "left")))) mNil)))) (fName 5) (sSeq (sAsgM (tTup 2 (tCons2 (tName 6) (tCons2 (tEnt 1 "left") tNil2))) (mTup (mCons (mCall f__law_draw [some 0, none] (mRef 0 (mCons (mLift (qC (.int 9))) mNil))) (mCons (mLift (qOp oSub (qOp oIx (qVar 1) (qC (.str "left"))) (qC (.int 1)))) mNil)))) (sSeq (sSet 7 (mLift (qFz (qLc (qItA (qOp oIx (qVar 1) (qC (.str "written")))) (fName 8) (qB (qOp oNin (qVar 8) (qOp oIx (qVar 1) (qC (.str "given"))))) (qVar 8) [8])))) (sIf (bLift (qAnd (qB (qOp oEq (qVar 6) (qC (.int 0)))) (qB (qOp oNe (qVar 7) (qFz (qLst qNil)))))) (sSeq (sDrop (mMt 4 fAppend (mCons (mOp oIx (mLift (qVar 7)) (frzM (mCall f__law_draw [some 0, none] (mRef 0 (mCons (mLift (qCb oLen (qCons (qVar 7) qNil))) mNil))))) mNil))) (sSeq (sSetE 1 "left" (mLift (qOp oSub (qOp oIx (qVar 1) (qC (.str "left"))) (qC (.int 1))))) (sSeq (sDrop (mMtE 1 "given" fAppend (qCons (qOp oIx (qVar 4) (qUn oNeg (qC (.int 1)))) qNil))) (sDrop (mMt 3 fAppend (mCons (mLift (qTup (qCons (qC (.str "give")) (qCons (qOp oIx (qVar 4) (qUn oNeg (qC (.int 1)))) qNil)))) mNil)))))) (sIf (bLift (qAnd (qB (qOp oEq (qVar 6) (qC (.int 1)))) (qB (qOp oNe (qVar 4) (qFz (qLst qNil)))))) (sSeq (sDrop (mMt 3 fAppend (mCons (mTup (mCons (mLift (qC (.str "back"))) (mCons (mMt 4 fPopAt (mCons (frzM (mCall f__law_draw [some 0, none] (mRef 0 (mCons (mLift (qCb oLen (qCons (qVar 4) qNil))) mNil)))) mNil)) mNil))) mNil))) (sDrop (mMtE 1 "given" fRem (qCons (qOp oIx (qOp oIx (qVar 3) (qUn oNeg (qC (.int 1)))) (qC (.int 1))) qNil)))) (sIf (bLift (qAnd (qB (qOp oIn (qVar 6) (qTup (qCons (qC (.int 2)) (qCons (qC (.int 3)) qNil))))) (qB (qOp oGt (qVar 2) (qC (.int 0)))))) (sDrop (mMt 3 fAppend (mCons (frzM (mCall r__law_parted [some 0, some 1, none] (mRef 0 (mRef 1 (mCons (mLift (qVar 2)) mNil))))) mNil))) (sDrop (mMt 3 fAppend (mCons (frzM (mCall f__law_row [some 0, some 1] (mRef 0 (mRef 1 mNil)))) mNil))))))))) (sSeq (sWhile (bLift (qAnd (qB (qOp oNe (qVar 4) (qFz (qLst qNil)))) (qOr (qNot (qB (qOp oIx (qVar 1) (qC (.str "top"))))) (qB (qOp oLt (qVar 2) (qOp oIx (qVar 1) (qC (.str "depth")))))))) (sSeq (sDrop (mMt 3 fAppend (mCons (mTup (mCons (mLift (qC (.str "back"))) (mCons (mMt0 4 fPop) mNil))) mNil))) (sDrop (mMtE 1 "given" fRem (qCons (qOp oIx (qOp oIx (qVar 3) (qUn oNeg (qC (.int 1)))) (qC (.int 1))) qNil))))) (sRet (mLift (qCb oTuple (qCons (qVar 3) qNil)))))))
theorem ok__law_items {j : Nat} (hj : 2 ≤ j) {r__law_parted r__law_items : List O → FR} {f : Addr} {fd : FuncData} (Fc : Fct K cl mg) (F : FunD K "_law_items" "_law_items" (defArgs s__law_items) (defBody s__law_items) (defScope s__law_items) [] [] f fd) (g : mg "_law_items" = some (.ref f)) (c__law_draw : CalG P w K mg base 1 "_law_draw" (spM ⟨K, cl⟩ 2 f__law_draw)) (c__law_row : CalG P w K mg base 2 "_law_row" (spM ⟨K, cl⟩ 2 f__law_row)) (c__law_parted : CalG P w K mg base j "_law_parted" (spM ⟨K, cl⟩ 3 r__law_parted)) (c__law_items : CalG P w K mg base j "_law_items" (spM ⟨K, cl⟩ 3 r__law_items)) : CalG P w K mg base (j + 1) "_law_items" (spM ⟨K, cl⟩ 3 (defN 6 [true, true, false] (m__law_items r__law_parted r__law_items))) := by
  refine ⟨f, fd, ["_law_tape_here", "_law_state", "_law_depth"], ?_, g, F.kp, F.bindsN fun _ _ _ _ _ _ us hl => match us, hl with | [_, _, _], _ => rfl⟩
  refine def_okN (io := [true, true, false]) (more := 6) (m := (m__law_items r__law_parted r__law_items)) F sc__law_items rfl rfl ?_
  intro cdv A outer s H E hr
  exact ⟨_, _, (pss_cons (ps_par (i := 3) (j := 4) rfl sc__law_items.nd rfl rfl (by decide) rfl rfl (pa_cons (pe_lst pa_nil) (pa_cons (pe_lst pa_nil) pa_nil)) rfl) (pss_cons (ps_for PassesOwn.never rfl (pi_range1 rfl Fc.f_range (pa_cons (pe_callB (call_min2 rfl) rfl Fc.f_min (by rfl) (pa_cons (pe_g c__law_draw hr (Nat.le_trans (by decide) hj) passL rfl (pa_cons (pv 0) (pa_cons (pe_ix (ix_U hr.u1) (pe_lst (pa_cons pe_int (pa_cons pe_int (pa_cons pe_int pa_nil)))) (pe_callB (call_min2 rfl) rfl Fc.f_min (by rfl) (pa_cons pe_int (pa_cons (pv 2) pa_nil))) (fun _ _ => rfl)) pa_nil))) (pa_cons (pe_ix (ix_U hr.u1) (pv 1) pe_str (fun _ _ => rfl)) pa_nil))) pa_nil)) (pg_name (i := 5) sc__law_items.nd rfl (.inl rfl)) (pss_cons (ps_asg (pe_tup (pa_cons (pe_g c__law_draw hr (Nat.le_trans (by decide) hj) passL rfl (pa_cons (pv 0) (pa_cons pe_int pa_nil))) (pa_cons (pe_op op_sub (pe_ix (ix_U hr.u1) (pv 1) pe_str (fun _ _ => rfl)) pe_int) pa_nil))) (pg_tup rfl (pgs_cons (pg_name (i := 6) sc__law_items.nd rfl (.inl rfl)) (pgs_cons (pg_sub (pv 1) pe_str (set_U hr.u1)) pgs_nil)))) (pss_cons (ps_setLc (i := 7) (own := [("_law_t", 8)]) rfl sc__law_items.nd rfl rfl (sw_true rfl rfl rfl (by decide +kernel)) (pi_any (pe_ix (ix_U hr.u1) (pv 1) pe_str (fun _ _ => rfl))) (blkOk_by (N := ["_law_tape_here", "_law_state", "_law_depth", "_law_items_here", "_law_held", "_law_k", "_law_way", "_law_free", "_law_t"]) (sc := defScope s__law_items) (own := [("_law_t", 8)]) (by decide +kernel)) (fun _ _ _ _ _ => (pg_name (i := 8) sc__law_items.nd rfl (.inl rfl))) (fun _ _ _ _ _ => pts_one (pt_cmpR (op_ninU hr.u65) (pv 8) (pe_ix (ix_U hr.u1) (pv 1) pe_str (fun _ _ => rfl)) (by with_unfolding_all rfl))) (fun _ _ _ _ _ => (pv 8))) (pss_one (ps_if (PW.pt (pw_and (pt_cmpR (op_eqU hr.u64) (pv 6) pe_int (nomark _)) (pw_and1 (pt_cmpR (op_neU hr.u64) (pv 7) (pe_lst pa_nil) (nomark _))))) (pss_cons (ps_expr (pe_bm PySem.F.plainAttrs_list PySem.F.slot_list_append PySem.F.type_list_append mt_append (pv 4) (pa_cons (pe_ix (ix_U hr.u1) (pv 7) (pe_g c__law_draw hr (Nat.le_trans (by decide) hj) passL rfl (pa_cons (pv 0) (pa_cons (pe_callB call_lenU rfl Fc.f_len (by rfl) (pa_cons (pv 7) pa_nil)) pa_nil))) (fun _ _ => rfl)) pa_nil))) (pss_cons (ps_asg (pe_op op_sub (pe_ix (ix_U hr.u1) (pv 1) pe_str (fun _ _ => rfl)) pe_int) (pg_sub (pv 1) pe_str (set_U hr.u1))) (pss_cons (ps_expr (pe_bm PySem.F.plainAttrs_list PySem.F.slot_list_append PySem.F.type_list_append mt_append (pe_ix (ix_U hr.u1) (pv 1) pe_str (fun _ _ => rfl)) (pa_cons (pe_ix (ix_U hr.u1) (pv 4) (pe_un un_neg pe_int) (fun _ _ => rfl)) pa_nil))) (pss_one (ps_expr (pe_bm PySem.F.plainAttrs_list PySem.F.slot_list_append PySem.F.type_list_append mt_append (pv 3) (pa_cons (pe_tup (pa_cons pe_str (pa_cons (pe_ix (ix_U hr.u1) (pv 4) (pe_un un_neg pe_int) (fun _ _ => rfl)) pa_nil))) pa_nil))))))) (pss_one (ps_if (PW.pt (pw_and (pt_cmpR (op_eqU hr.u64) (pv 6) pe_int (nomark _)) (pw_and1 (pt_cmpR (op_neU hr.u64) (pv 4) (pe_lst pa_nil) (nomark _))))) (pss_cons (ps_expr (pe_bm PySem.F.plainAttrs_list PySem.F.slot_list_append PySem.F.type_list_append mt_append (pv 3) (pa_cons (pe_tup (pa_cons pe_str (pa_cons (pe_bm PySem.F.plainAttrs_list PySem.F.slot_list_pop PySem.F.type_list_pop mt_popAt (pv 4) (pa_cons (pe_g c__law_draw hr (Nat.le_trans (by decide) hj) passL rfl (pa_cons (pv 0) (pa_cons (pe_callB call_lenU rfl Fc.f_len (by rfl) (pa_cons (pv 4) pa_nil)) pa_nil))) pa_nil)) pa_nil))) pa_nil))) (pss_one (ps_expr (pe_bm PySem.F.plainAttrs_list PySem.F.slot_list_remove PySem.F.type_list_remove mt_remove (pe_ix (ix_U hr.u1) (pv 1) pe_str (fun _ _ => rfl)) (pa_cons (pe_ix (ix_U hr.u1) (pe_ix (ix_U hr.u1) (pv 3) (pe_un un_neg pe_int) (fun _ _ => rfl)) pe_int (fun _ _ => rfl)) pa_nil))))) (pss_one (ps_if (PW.pt (pw_and (pt_cmpR (op_inU hr.u65) (pv 6) (pe_tup (pa_cons pe_int (pa_cons pe_int pa_nil))) (by with_unfolding_all rfl)) (pw_and1 (pt_cmpR op_gt (pv 2) pe_int (nomark _))))) (pss_one (ps_expr (pe_bm PySem.F.plainAttrs_list PySem.F.slot_list_append PySem.F.type_list_append mt_append (pv 3) (pa_cons (pe_g c__law_parted hr (Nat.le_refl _) passL rfl (pa_cons (pv 0) (pa_cons (pv 1) (pa_cons (pv 2) pa_nil)))) pa_nil)))) (pss_one (ps_expr (pe_bm PySem.F.plainAttrs_list PySem.F.slot_list_append PySem.F.type_list_append mt_append (pv 3) (pa_cons (pe_g c__law_row hr (Nat.le_trans (by decide) hj) passL rfl (pa_cons (pv 0) (pa_cons (pv 1) pa_nil))) pa_nil))))))))))))) (pss_cons (ps_while PassesOwn.never (PW.pt (pw_and (pt_cmpR (op_neU hr.u64) (pv 4) (pe_lst pa_nil) (nomark _)) (pw_and1 (PW.pt (pw_or (pt_not (pt_val (pe_ix (ix_U hr.u1) (pv 1) pe_str (fun _ _ => rfl)))) (pw_or1 (pt_cmpR op_lt (pv 2) (pe_ix (ix_U hr.u1) (pv 1) pe_str (fun _ _ => rfl)) (nomark _)))))))) (pss_cons (ps_expr (pe_bm PySem.F.plainAttrs_list PySem.F.slot_list_append PySem.F.type_list_append mt_append (pv 3) (pa_cons (pe_tup (pa_cons pe_str (pa_cons (pe_bm0 PySem.F.plainAttrs_list PySem.F.slot_list_pop PySem.F.type_list_pop mt_pop (pv 4)) pa_nil))) pa_nil))) (pss_one (ps_expr (pe_bm PySem.F.plainAttrs_list PySem.F.slot_list_remove PySem.F.type_list_remove mt_remove (pe_ix (ix_U hr.u1) (pv 1) pe_str (fun _ _ => rfl)) (pa_cons (pe_ix (ix_U hr.u1) (pe_ix (ix_U hr.u1) (pv 3) (pe_un un_neg pe_int) (fun _ _ => rfl)) pe_int (fun _ _ => rfl)) pa_nil)))))) (pss_one (ps_ret (pe_callTy call_tuple_of rfl Fc.f_tuple (by rfl) (pa_cons (pv 3) pa_nil))))))), (tsm_seq (tsm_par (tam_val (tem_new (ten_lst tav_nil)) (tam_val (tem_new (ten_lst tav_nil)) tam_nil))) (tsm_seq (tsm_for (tim_rng1 (tem_cb (tam_val (tem_frz (tem_call rfl (tam_ref (tam_val (tem_lift (tev_op (tev_n (ten_lst (tav_cons (tev_c fun _ => .int _) (tav_cons (tev_c fun _ => .int _) (tav_cons (tev_c fun _ => .int _) tav_nil))))) (tev_cb (tav_cons (tev_c fun _ => .int _) (tav_cons (tev_var (i := 2)) tav_nil)) cb_min2) ov_ix)) tam_nil)))) (tam_val (tem_lift (tev_op (tev_var (i := 1)) (tev_c fun _ => .str _) ov_ix)) tam_nil)) cb_min2)) tgq_name (tsm_seq (tsm_asgM (tgm_tup (tgsm_cons tgm_name (tgsm_cons tgm_ent tgsm_nil))) (tem_tup (tam_val (tem_call rfl (tam_ref (tam_val (tem_lift (tev_c fun _ => .int _)) tam_nil))) (tam_val (tem_lift (tev_op (tev_op (tev_var (i := 1)) (tev_c fun _ => .str _) ov_ix) (tev_c fun _ => .int _) ov_sub)) tam_nil)))) (tsm_seq (tsm_set (tem_lift (tev_n (ten_lc (tiv_any (tev_op (tev_var (i := 1)) (tev_c fun _ => .str _) ov_ix)) tgq_name (by decide) (ttv_test (tev_op (tev_var (i := 8)) (tev_op (tev_var (i := 1)) (tev_c fun _ => .str _) ov_ix) ov_nin)) (tev_var (i := 8)))))) (tsm_if (ttm_lift (ttv_and (ttv_test (tev_op (tev_var (i := 6)) (tev_c fun _ => .int _) ov_eq)) (ttv_test (tev_op (tev_var (i := 7)) (tev_n (ten_lst tav_nil)) ov_ne)))) (tsm_seq (tsm_drop (tem_mt (tam_val (tem_op (tem_lift (tev_var (i := 7))) (tem_frz (tem_call rfl (tam_ref (tam_val (tem_lift (tev_cb (tav_cons (tev_var (i := 7)) tav_nil) cb_len)) tam_nil)))) ov_ix) tam_nil) lm_append)) (tsm_seq (tsm_setE (tem_lift (tev_op (tev_op (tev_var (i := 1)) (tev_c fun _ => .str _) ov_ix) (tev_c fun _ => .int _) ov_sub))) (tsm_seq (tsm_drop (tem_mtE (tav_cons (tev_op (tev_var (i := 4)) (tev_un (tev_c fun _ => .int _) uv_neg) ov_ix) tav_nil) lm_append)) (tsm_drop (tem_mt (tam_val (tem_lift (tev_tup (tav_cons (tev_c fun _ => .str _) (tav_cons (tev_op (tev_var (i := 4)) (tev_un (tev_c fun _ => .int _) uv_neg) ov_ix) tav_nil)))) tam_nil) lm_append))))) (tsm_if (ttm_lift (ttv_and (ttv_test (tev_op (tev_var (i := 6)) (tev_c fun _ => .int _) ov_eq)) (ttv_test (tev_op (tev_var (i := 4)) (tev_n (ten_lst tav_nil)) ov_ne)))) (tsm_seq (tsm_drop (tem_mt (tam_val (tem_tup (tam_val (tem_lift (tev_c fun _ => .str _)) (tam_val (tem_mt (tam_val (tem_frz (tem_call rfl (tam_ref (tam_val (tem_lift (tev_cb (tav_cons (tev_var (i := 4)) tav_nil) cb_len)) tam_nil)))) tam_nil) lm_popAt) tam_nil))) tam_nil) lm_append)) (tsm_drop (tem_mtE (tav_cons (tev_op (tev_op (tev_var (i := 3)) (tev_un (tev_c fun _ => .int _) uv_neg) ov_ix) (tev_c fun _ => .int _) ov_ix) tav_nil) lm_rem))) (tsm_if (ttm_lift (ttv_and (ttv_test (tev_op (tev_var (i := 6)) (tev_tup (tav_cons (tev_c fun _ => .int _) (tav_cons (tev_c fun _ => .int _) tav_nil))) ov_in)) (ttv_test (tev_op (tev_var (i := 2)) (tev_c fun _ => .int _) ov_gt)))) (tsm_drop (tem_mt (tam_val (tem_frz (tem_call rfl (tam_ref (tam_ref (tam_val (tem_lift (tev_var (i := 2))) tam_nil))))) tam_nil) lm_append)) (tsm_drop (tem_mt (tam_val (tem_frz (tem_call rfl (tam_ref (tam_ref tam_nil)))) tam_nil) lm_append)))))))) (tsm_seq (tsm_while (ttm_lift (ttv_and (ttv_test (tev_op (tev_var (i := 4)) (tev_n (ten_lst tav_nil)) ov_ne)) (ttv_or (ttv_not (ttv_B (tev_op (tev_var (i := 1)) (tev_c fun _ => .str _) ov_ix))) (ttv_test (tev_op (tev_var (i := 2)) (tev_op (tev_var (i := 1)) (tev_c fun _ => .str _) ov_ix) ov_lt))))) (tsm_seq (tsm_drop (tem_mt (tam_val (tem_tup (tam_val (tem_lift (tev_c fun _ => .str _)) (tam_val (tem_mt0 lm_pop) tam_nil))) tam_nil) lm_append)) (tsm_drop (tem_mtE (tav_cons (tev_op (tev_op (tev_var (i := 3)) (tev_un (tev_c fun _ => .int _) uv_neg) ov_ix) (tev_c fun _ => .int _) ov_ix) tav_nil) lm_rem)))) (tsm_ret (tem_lift (tev_cb (tav_cons (tev_var (i := 3)) tav_nil) cb_tuple)))))), by decide⟩
theorem bad__law_items {j : Nat} {g : List O → FR} (hb : g = fun _ => .bad) {f : Addr} {fd : FuncData} (Fc : Fct K cl mg) (F : FunD K "_law_items" "_law_items" (defArgs s__law_items) (defBody s__law_items) (defScope s__law_items) [] [] f fd) (hm : mg "_law_items" = some (.ref f)) : CalG P w K mg base j "_law_items" (spM ⟨K, cl⟩ 3 g) := CalG.bad (ps := ["_law_tape_here", "_law_state", "_law_depth"]) hb F hm (F.bindsN fun _ _ _ _ _ _ us hl => match us, hl with | [_, _, _], _ => rfl)
noncomputable def grp__law_parted : Nat → Nat → List O → FR
  | 0, _ => fun _ => .bad
  | n + 1, 0 => defN 5 [true, true, false] (m__law_parted (grp__law_parted n 0) (grp__law_parted n 1))
  | n + 1, _ => defN 6 [true, true, false] (m__law_items (grp__law_parted n 0) (grp__law_parted n 1))
noncomputable def f__law_parted : List O → FR := grp__law_parted 45 0
noncomputable def f__law_items : List O → FR := grp__law_parted 45 1
theorem all__law_parted (Fc : Fct K cl mg) {a__law_parted : Addr} {fd__law_parted : FuncData} (F__law_parted : FunD K "_law_parted" "_law_parted" (defArgs s__law_parted) (defBody s__law_parted) (defScope s__law_parted) [] [] a__law_parted fd__law_parted) (g__law_parted : mg "_law_parted" = some (.ref a__law_parted)) {a__law_items : Addr} {fd__law_items : FuncData} (F__law_items : FunD K "_law_items" "_law_items" (defArgs s__law_items) (defBody s__law_items) (defScope s__law_items) [] [] a__law_items fd__law_items) (g__law_items : mg "_law_items" = some (.ref a__law_items)) (c__law_draw : CalG P w K mg base 1 "_law_draw" (spM ⟨K, cl⟩ 2 f__law_draw)) (c__law_row : CalG P w K mg base 2 "_law_row" (spM ⟨K, cl⟩ 2 f__law_row)) : ∀ n : Nat, CalG P w K mg base (2 + n) "_law_parted" (spM ⟨K, cl⟩ 3 (grp__law_parted n 0)) ∧ CalG P w K mg base (2 + n) "_law_items" (spM ⟨K, cl⟩ 3 (grp__law_parted n 1))
  | 0 => ⟨bad__law_parted rfl Fc F__law_parted g__law_parted, bad__law_items rfl Fc F__law_items g__law_items⟩
  | n + 1 => by
    have ih := all__law_parted Fc F__law_parted g__law_parted F__law_items g__law_items c__law_draw c__law_row n
    exact ⟨ok__law_parted (Nat.le_add_right _ _) Fc F__law_parted g__law_parted c__law_draw ih.1 ih.2, ok__law_items (Nat.le_add_right _ _) Fc F__law_items g__law_items c__law_draw c__law_row ih.1 ih.2⟩
abbrev s__law_program : Stmt := topS 27
theorem sc__law_program : FnScope ["_law_tape_here", "_law_many", "_law_depth", "_law_state", "_law_things_here"] ["_law_tape_here"] (defScope s__law_program) := ⟨rfl, rfl, rfl, by decide +kernel, rfl, by decide +kernel, by decide +kernel⟩
noncomputable def m__law_program : MS := (sSeq (sSet 1 (mOp oIx (frzM (mLst (mCons (frzM (mCall f__law_draw [some 0, none] (mRef 0 (mCons (mLift (qC (.int 5))) mNil)))) (mCons (mOp oAdd (mLift (qC (.int 1))) (frzM (mCall f__law_draw [some 0, none] (mRef 0 (mCons (mLift (qC (.int 6))) mNil))))) (mCons (mOp oAdd (mLift (qC (.int 7))) (frzM (mCall f__law_draw [some 0, none] (mRef 0 (mCons (mLift (qC (.int 6))) mNil))))) mNil))))) (frzM (mCall f__law_draw [some 0, none] (mRef 0 (mCons (mLift (qC (.int 3))) mNil)))))) (sSeq (sSet 2 (mOp oAdd (mLift (qC (.int 1))) (frzM (mCall f__law_draw [some 0, none] (mRef 0 (mCons (mLift (qC (.int 3))) mNil)))))) (sSeq (sSet 3 (mDisp ["many", "written", "given", "depth", "top"] (mCons (mLift (qVar 1)) (mCons (mNew (qLst qNil)) (mCons (mNew (qLst qNil)) (mCons (mLift (qVar 2)) (mCons (mOp oEq (frzM (mCall f__law_draw [some 0, none] (mRef 0 (mCons (mLift (qC (.int 2))) mNil)))) (mLift (qC (.int 0)))) mNil))))))) (sSeq (sSetE 3 "left" (mOp oIx (mLift (qFz (qLst (qCons (qC (.int 12)) (qCons (qC (.int 24)) (qCons (qC (.int 30)) (qCons (qC (.int 56)) qNil))))))) (frzM (mCall f__law_draw [some 0, none] (mRef 0 (mCons (mLift (qC (.int 4))) mNil)))))) (sSeq (sSet 4 (frzM (mCall f__law_things [some 0, none] (mRef 0 (mCons (mLift (qVar 1)) mNil))))) (sRet (mTup (mCons (mLift (qVar 4)) (mCons (frzM (mCall f__law_items [some 0, some 3, none] (mRef 0 (mRef 3 (mCons (mLift (qVar 2)) mNil))))) mNil)))))))))
noncomputable def f__law_program : List O → FR := defN 4 [true] m__law_program
theorem ok__law_program {f : Addr} {fd : FuncData} (Fc : Fct K cl mg) (F : FunD K "_law_program" "_law_program" (defArgs s__law_program) (defBody s__law_program) (defScope s__law_program) [] [] f fd) (g : mg "_law_program" = some (.ref f)) (c__law_draw : CalG P w K mg base 1 "_law_draw" (spM ⟨K, cl⟩ 2 f__law_draw)) (c__law_things : CalG P w K mg base 2 "_law_things" (spM ⟨K, cl⟩ 2 f__law_things)) (c__law_items : CalG P w K mg base 47 "_law_items" (spM ⟨K, cl⟩ 3 f__law_items)) : CalG P w K mg base 48 "_law_program" (spM ⟨K, cl⟩ 1 f__law_program) := by
  refine ⟨f, fd, ["_law_tape_here"], ?_, g, F.kp, F.bindsN fun _ _ _ _ _ _ us hl => match us, hl with | [_], _ => rfl⟩
  refine def_okN (io := [true]) (more := 4) (m := m__law_program) F sc__law_program rfl rfl ?_
  intro cdv A outer s H E hr
  exact ⟨_, _, (pss_cons (ps_set (i := 1) sc__law_program.nd rfl (.inl rfl) (pe_ix (ix_U hr.u1) (pe_lst (pa_cons (pe_g c__law_draw hr (by decide) passL rfl (pa_cons (pv 0) (pa_cons pe_int pa_nil))) (pa_cons (pe_op op_addU pe_int (pe_g c__law_draw hr (by decide) passL rfl (pa_cons (pv 0) (pa_cons pe_int pa_nil)))) (pa_cons (pe_op op_addU pe_int (pe_g c__law_draw hr (by decide) passL rfl (pa_cons (pv 0) (pa_cons pe_int pa_nil)))) pa_nil)))) (pe_g c__law_draw hr (by decide) passL rfl (pa_cons (pv 0) (pa_cons pe_int pa_nil))) (fun _ _ => rfl))) (pss_cons (ps_set (i := 2) sc__law_program.nd rfl (.inl rfl) (pe_op op_addU pe_int (pe_g c__law_draw hr (by decide) passL rfl (pa_cons (pv 0) (pa_cons pe_int pa_nil))))) (pss_cons (ps_set (i := 3) sc__law_program.nd rfl (.inl rfl) (pe_disp (pps_cons pe_str (pv 1) (pps_cons pe_str (pe_lst pa_nil) (pps_cons pe_str (pe_lst pa_nil) (pps_cons pe_str (pv 2) (pps_cons pe_str (pe_cmpR (op_eqU hr.u64) (pe_g c__law_draw hr (by decide) passL rfl (pa_cons (pv 0) (pa_cons pe_int pa_nil))) pe_int (nomark _)) pps_nil))))) rfl rfl (by decide) (by decide))) (pss_cons (ps_asg (pe_ix (ix_U hr.u1) (pe_lst (pa_cons pe_int (pa_cons pe_int (pa_cons pe_int (pa_cons pe_int pa_nil))))) (pe_g c__law_draw hr (by decide) passL rfl (pa_cons (pv 0) (pa_cons pe_int pa_nil))) (fun _ _ => rfl)) (pg_sub (pv 3) pe_str (set_U hr.u1))) (pss_cons (ps_set (i := 4) sc__law_program.nd rfl (.inl rfl) (pe_g c__law_things hr (by decide) passL rfl (pa_cons (pv 0) (pa_cons (pv 1) pa_nil)))) (pss_one (ps_ret (pe_tup (pa_cons (pv 4) (pa_cons (pe_g c__law_items hr (by decide) passL rfl (pa_cons (pv 0) (pa_cons (pv 3) (pa_cons (pv 2) pa_nil)))) pa_nil)))))))))), (tsm_seq (tsm_set (tem_op (tem_frz (tem_lst (tam_val (tem_frz (tem_call rfl (tam_ref (tam_val (tem_lift (tev_c fun _ => .int _)) tam_nil)))) (tam_val (tem_op (tem_lift (tev_c fun _ => .int _)) (tem_frz (tem_call rfl (tam_ref (tam_val (tem_lift (tev_c fun _ => .int _)) tam_nil)))) ov_add) (tam_val (tem_op (tem_lift (tev_c fun _ => .int _)) (tem_frz (tem_call rfl (tam_ref (tam_val (tem_lift (tev_c fun _ => .int _)) tam_nil)))) ov_add) tam_nil))))) (tem_frz (tem_call rfl (tam_ref (tam_val (tem_lift (tev_c fun _ => .int _)) tam_nil)))) ov_ix)) (tsm_seq (tsm_set (tem_op (tem_lift (tev_c fun _ => .int _)) (tem_frz (tem_call rfl (tam_ref (tam_val (tem_lift (tev_c fun _ => .int _)) tam_nil)))) ov_add)) (tsm_seq (tsm_set (tem_disp (dsp_cons (dsp_cons (dsp_cons (dsp_cons (dsp_cons dsp_nil))))) (by decide +kernel) (by decide) (tam_val (tem_lift (tev_var (i := 1))) (tam_val (tem_new (ten_lst tav_nil)) (tam_val (tem_new (ten_lst tav_nil)) (tam_val (tem_lift (tev_var (i := 2))) (tam_val (tem_op (tem_frz (tem_call rfl (tam_ref (tam_val (tem_lift (tev_c fun _ => .int _)) tam_nil)))) (tem_lift (tev_c fun _ => .int _)) ov_eq) tam_nil))))))) (tsm_seq (tsm_setE (tem_op (tem_lift (tev_n (ten_lst (tav_cons (tev_c fun _ => .int _) (tav_cons (tev_c fun _ => .int _) (tav_cons (tev_c fun _ => .int _) (tav_cons (tev_c fun _ => .int _) tav_nil))))))) (tem_frz (tem_call rfl (tam_ref (tam_val (tem_lift (tev_c fun _ => .int _)) tam_nil)))) ov_ix)) (tsm_seq (tsm_set (tem_frz (tem_call rfl (tam_ref (tam_val (tem_lift (tev_var (i := 1))) tam_nil))))) (tsm_ret (tem_tup (tam_val (tem_lift (tev_var (i := 4))) (tam_val (tem_frz (tem_call rfl (tam_ref (tam_ref (tam_val (tem_lift (tev_var (i := 2))) tam_nil))))) tam_nil))))))))), by decide⟩
abbrev s_Walk___init__ : Stmt := clsS 9 0
theorem sc_Walk___init__ : FnScope ["self"] ["self"] (defScope s_Walk___init__) := ⟨rfl, rfl, rfl, by decide +kernel, rfl, by decide +kernel, by decide +kernel⟩
noncomputable def m_Walk___init__ : MS := (sSeq (sSetF 0 0 "rows" (mNew (qLst qNil))) (sSeq (sSetF 0 0 "written" (mNew (qLst qNil))) (sSeq (sSetF 0 0 "held_out" (mNew (qLst qNil))) (sSetF 0 0 "right" (mLift (qC (.bool true)))))))
noncomputable def f_Walk___init__ : List O → FR := defN 0 [true] m_Walk___init__
theorem ok_Walk___init__ {f : Addr} {fd : FuncData} (Fc : Fct K cl mg) (F : FunD K "__init__" "Walk.__init__" (defArgs s_Walk___init__) (defBody s_Walk___init__) (defScope s_Walk___init__) [] [] f fd) (g : Mk K (cl 0) f ∧ mg "Walk" = some (.ref (cl 0))) : MakG P w K mg base 1 "Walk" (cl 0) (spM ⟨K, cl⟩ 1 f_Walk___init__) := by
  refine ⟨f, fd, ["self"], ?_, g.1, g.2, F.bindsN fun _ _ _ _ _ _ us hl => match us, hl with | [_], _ => rfl⟩
  refine def_okN (io := [true]) (more := 0) (m := m_Walk___init__) F sc_Walk___init__ rfl rfl ?_
  intro cdv A outer s H E hr
  exact ⟨_, _, (pss_cons (ps_fld (pv 0) (pe_lst pa_nil) rfl) (pss_cons (ps_fld (pv 0) (pe_lst pa_nil) rfl) (pss_cons (ps_fld (pv 0) (pe_lst pa_nil) rfl) (pss_one (ps_fld (pv 0) pe_bl rfl))))), (tsm_seq (tsm_setF Fc.c_Walk Fc.n_Walk_rows (tem_new (ten_lst tav_nil))) (tsm_seq (tsm_setF Fc.c_Walk Fc.n_Walk_written (tem_new (ten_lst tav_nil))) (tsm_seq (tsm_setF Fc.c_Walk Fc.n_Walk_held_out (tem_new (ten_lst tav_nil))) (tsm_setF Fc.c_Walk Fc.n_Walk_right (tem_lift (tev_c fun _ => .bl _)))))), by decide⟩
abbrev s_in_both : Stmt := topS 8
theorem sc_in_both : FnScope ["some", "others", "one"] ["some", "others"] (defScope s_in_both) := ⟨rfl, rfl, rfl, by decide +kernel, rfl, by decide +kernel, by decide +kernel⟩
noncomputable def m_in_both : MS := (sRet (mNew (qLc (qItA (qVar 0)) (fName 2) (qB (qOp oIn (qVar 2) (qVar 1))) (qVar 2) [2])))
noncomputable def f_in_both : List O → FR := defN 1 [false, false] m_in_both
theorem ok_in_both {f : Addr} {fd : FuncData} (Fc : Fct K cl mg) (F : FunD K "in_both" "in_both" (defArgs s_in_both) (defBody s_in_both) (defScope s_in_both) [] [] f fd) (g : mg "in_both" = some (.ref f)) : CalG P w K mg base 1 "in_both" (spM ⟨K, cl⟩ 2 f_in_both) := by
  refine ⟨f, fd, ["some", "others"], ?_, g, F.kp, F.bindsN fun _ _ _ _ _ _ us hl => match us, hl with | [_, _], _ => rfl⟩
  refine def_okN (io := [false, false]) (more := 1) (m := m_in_both) F sc_in_both rfl rfl ?_
  intro cdv A outer s H E hr
  exact ⟨_, _, (pss_one (ps_ret (pe_lc (own := [("one", 2)]) rfl sc_in_both.nd (pi_any (pv 0)) (blkOk_by (N := ["some", "others", "one"]) (sc := defScope s_in_both) (own := [("one", 2)]) (by decide +kernel)) (fun _ _ _ _ _ => (pg_name (i := 2) sc_in_both.nd rfl (.inl rfl))) (fun _ _ _ _ _ => pts_one (pt_cmpR (op_inU hr.u65) (pv 2) (pv 1) (by with_unfolding_all rfl))) (fun _ _ _ _ _ => (pv 2))))), (tsm_ret (tem_new (ten_lc (tiv_any (tev_var (i := 0))) tgq_name (by decide) (ttv_test (tev_op (tev_var (i := 2)) (tev_var (i := 1)) ov_in)) (tev_var (i := 2))))), by decide⟩
abbrev s_reads_of : Stmt := topS 5
theorem sc_reads_of : FnScope ["row"] ["row"] (defScope s_reads_of) := ⟨rfl, rfl, rfl, by decide +kernel, rfl, by decide +kernel, by decide +kernel⟩
noncomputable def m_reads_of : MS := (sSeq (sIf (bLift (qB (qOp oEq (qOp oIx (qVar 0) (qC (.int 0))) (qC (.str "give"))))) (sRet (mLift (qTup (qCons (qOp oIx (qVar 0) (qC (.int 1))) qNil)))) sNext) (sRet (mLift (qIf (qB (qOp oEq (qOp oIx (qVar 0) (qC (.int 0))) (qC (.str "back")))) (qTup qNil) (qOp oIx (qVar 0) (qUn oNeg (qC (.int 2))))))))
noncomputable def f_reads_of : List O → FR := defN 0 [false] m_reads_of
theorem ok_reads_of {f : Addr} {fd : FuncData} (Fc : Fct K cl mg) (F : FunD K "reads_of" "reads_of" (defArgs s_reads_of) (defBody s_reads_of) (defScope s_reads_of) [] [] f fd) (g : mg "reads_of" = some (.ref f)) : CalG P w K mg base 1 "reads_of" (spM ⟨K, cl⟩ 1 f_reads_of) := by
  refine ⟨f, fd, ["row"], ?_, g, F.kp, F.bindsN fun _ _ _ _ _ _ us hl => match us, hl with | [_], _ => rfl⟩
  refine def_okN (io := [false]) (more := 0) (m := m_reads_of) F sc_reads_of rfl rfl ?_
  intro cdv A outer s H E hr
  exact ⟨_, _, (pss_cons (ps_if (pt_cmpR (op_eqU hr.u64) (pe_ix (ix_U hr.u1) (pv 0) pe_int (fun _ _ => rfl)) (pe_gs rfl Fc.g_GIVE) (nomark _)) (pss_one (ps_ret (pe_tup (pa_cons (pe_ix (ix_U hr.u1) (pv 0) pe_int (fun _ _ => rfl)) pa_nil)))) pss_nil) (pss_one (ps_ret (pe_ifExp (pt_cmpR (op_eqU hr.u64) (pe_ix (ix_U hr.u1) (pv 0) pe_int (fun _ _ => rfl)) (pe_gs rfl Fc.g_BACK) (nomark _)) (pe_tup pa_nil) (pe_ix (ix_U hr.u1) (pv 0) (pe_un un_neg pe_int) (fun _ _ => rfl)))))), (tsm_seq (tsm_if (ttm_lift (ttv_test (tev_op (tev_op (tev_var (i := 0)) (tev_c fun _ => .int _) ov_ix) (tev_c fun _ => .str _) ov_eq))) (tsm_ret (tem_lift (tev_tup (tav_cons (tev_op (tev_var (i := 0)) (tev_c fun _ => .int _) ov_ix) tav_nil)))) tsm_next) (tsm_ret (tem_lift (tev_if (ttv_test (tev_op (tev_op (tev_var (i := 0)) (tev_c fun _ => .int _) ov_ix) (tev_c fun _ => .str _) ov_eq)) (tev_tup tav_nil) (tev_op (tev_var (i := 0)) (tev_un (tev_c fun _ => .int _) uv_neg) ov_ix))))), by decide⟩
abbrev s_with_one : Stmt := topS 7
theorem sc_with_one : FnScope ["some", "one"] ["some", "one"] (defScope s_with_one) := ⟨rfl, rfl, rfl, by decide +kernel, rfl, by decide +kernel, by decide +kernel⟩
noncomputable def m_with_one : MS := (sRet (mLift (qIf (qB (qOp oIn (qVar 1) (qVar 0))) (qVar 0) (qOp oAdd (qVar 0) (qFz (qLst (qCons (qVar 1) qNil)))))))
noncomputable def f_with_one : List O → FR := defN 0 [false, false] m_with_one
theorem ok_with_one {f : Addr} {fd : FuncData} (Fc : Fct K cl mg) (F : FunD K "with_one" "with_one" (defArgs s_with_one) (defBody s_with_one) (defScope s_with_one) [] [] f fd) (g : mg "with_one" = some (.ref f)) : CalG P w K mg base 1 "with_one" (spM ⟨K, cl⟩ 2 f_with_one) := by
  refine ⟨f, fd, ["some", "one"], ?_, g, F.kp, F.bindsN fun _ _ _ _ _ _ us hl => match us, hl with | [_, _], _ => rfl⟩
  refine def_okN (io := [false, false]) (more := 0) (m := m_with_one) F sc_with_one rfl rfl ?_
  intro cdv A outer s H E hr
  exact ⟨_, _, (pss_one (ps_ret (pe_ifExp (pt_cmpR (op_inU hr.u65) (pv 1) (pv 0) (by with_unfolding_all rfl)) (pv 0) (pe_op op_addU (pv 0) (pe_lst (pa_cons (pv 1) pa_nil)))))), (tsm_ret (tem_lift (tev_if (ttv_test (tev_op (tev_var (i := 1)) (tev_var (i := 0)) ov_in)) (tev_var (i := 0)) (tev_op (tev_var (i := 0)) (tev_n (ten_lst (tav_cons (tev_var (i := 1)) tav_nil))) ov_add)))), by decide⟩
abbrev s_write_of : Stmt := topS 6
theorem sc_write_of : FnScope ["row"] ["row"] (defScope s_write_of) := ⟨rfl, rfl, rfl, by decide +kernel, rfl, by decide +kernel, by decide +kernel⟩
noncomputable def m_write_of : MS := (sRet (mLift (qIf (qB (qOp oIn (qOp oIx (qVar 0) (qC (.int 0))) (qTup (qCons (qC (.str "give")) (qCons (qC (.str "back")) qNil))))) (qC (.none)) (qOp oIx (qVar 0) (qUn oNeg (qC (.int 1)))))))
noncomputable def f_write_of : List O → FR := defN 0 [false] m_write_of
theorem ok_write_of {f : Addr} {fd : FuncData} (Fc : Fct K cl mg) (F : FunD K "write_of" "write_of" (defArgs s_write_of) (defBody s_write_of) (defScope s_write_of) [] [] f fd) (g : mg "write_of" = some (.ref f)) : CalG P w K mg base 1 "write_of" (spM ⟨K, cl⟩ 1 f_write_of) := by
  refine ⟨f, fd, ["row"], ?_, g, F.kp, F.bindsN fun _ _ _ _ _ _ us hl => match us, hl with | [_], _ => rfl⟩
  refine def_okN (io := [false]) (more := 0) (m := m_write_of) F sc_write_of rfl rfl ?_
  intro cdv A outer s H E hr
  exact ⟨_, _, (pss_one (ps_ret (pe_ifExp (pt_cmpR (op_inU hr.u65) (pe_ix (ix_U hr.u1) (pv 0) pe_int (fun _ _ => rfl)) (pe_tup (pa_cons (pe_gs rfl Fc.g_GIVE) (pa_cons (pe_gs rfl Fc.g_BACK) pa_nil))) (by with_unfolding_all rfl)) pe_non (pe_ix (ix_U hr.u1) (pv 0) (pe_un un_neg pe_int) (fun _ _ => rfl))))), (tsm_ret (tem_lift (tev_if (ttv_test (tev_op (tev_op (tev_var (i := 0)) (tev_c fun _ => .int _) ov_ix) (tev_tup (tav_cons (tev_c fun _ => .str _) (tav_cons (tev_c fun _ => .str _) tav_nil))) ov_in)) (tev_c fun _ => .non) (tev_op (tev_var (i := 0)) (tev_un (tev_c fun _ => .int _) uv_neg) ov_ix)))), by decide⟩
abbrev s_Walk_take : Stmt := clsS 9 1
theorem sc_Walk_take : FnScope ["self", "row", "written", "given", "read", "t", "write"] ["self", "row", "written", "given"] (defScope s_Walk_take) := ⟨rfl, rfl, rfl, by decide +kernel, rfl, by decide +kernel, by decide +kernel⟩
noncomputable def m_Walk_take : MS := (sSeq (sIf (bLift (qNot (qB (qCb oAll (qCons (qFz (qLc (qItA (qCall (qOf f_reads_of) (qCons (qVar 1) qNil))) (fName 4) qYes (qOp oIn (qVar 4) (qVar 2)) [4])) qNil))))) (sSetF 0 0 "right" (mLift (qC (.bool false)))) sNext) (sSeq (sDrop (mMtF 0 0 "written" fAppend (qCons (qVar 2) qNil))) (sSeq (sIf (bLift (qB (qOp oEq (qOp oIx (qVar 1) (qC (.int 0))) (qC (.str "give"))))) (sSeq (sSetF 0 0 "right" (mLift (qAndV (qFld 0 0 "right") (qOp oNin (qOp oIx (qVar 1) (qC (.int 1))) (qVar 3))))) (sSet 3 (mLift (qFz (qCb oSortV (qCons (qCall (qOf f_with_one) (qCons (qVar 3) (qCons (qOp oIx (qVar 1) (qC (.int 1))) qNil))) qNil)))))) sNext) (sSeq (sIf (bLift (qB (qOp oEq (qOp oIx (qVar 1) (qC (.int 0))) (qC (.str "back"))))) (sSeq (sSetF 0 0 "right" (mLift (qAndV (qFld 0 0 "right") (qOp oIn (qOp oIx (qVar 1) (qC (.int 1))) (qVar 3))))) (sSet 3 (mLift (qFz (qLc (qItA (qVar 3)) (fName 5) (qB (qOp oNe (qVar 5) (qOp oIx (qVar 1) (qC (.int 1))))) (qVar 5) [5]))))) sNext) (sSeq (sDrop (mMtF 0 0 "rows" fAppend (qCons (qVar 1) qNil))) (sSeq (sDrop (mMtF 0 0 "held_out" fAppend (qCons (qVar 3) qNil))) (sSeq (sSet 6 (mLift (qCall (qOf f_write_of) (qCons (qVar 1) qNil)))) (sRet (mLift (qTup (qCons (qIf (qB (qOp oIsN (qVar 6) (qC (.none)))) (qVar 2) (qFz (qCb oSortV (qCons (qCall (qOf f_with_one) (qCons (qVar 2) (qCons (qVar 6) qNil))) qNil)))) (qCons (qVar 3) qNil))))))))))))
noncomputable def f_Walk_take : List O → FR := defN 3 [true, false, false, false] m_Walk_take
theorem ok_Walk_take {f : Addr} {fd : FuncData} (Fc : Fct K cl mg) (F : FunD K "take" "Walk.take" (defArgs s_Walk_take) (defBody s_Walk_take) (defScope s_Walk_take) [] [] f fd) (g : Meth K (cl 0) "take" f) (c_reads_of : CalG P w K mg base 1 "reads_of" (spM ⟨K, cl⟩ 1 f_reads_of)) (c_with_one : CalG P w K mg base 1 "with_one" (spM ⟨K, cl⟩ 2 f_with_one)) (c_write_of : CalG P w K mg base 1 "write_of" (spM ⟨K, cl⟩ 1 f_write_of)) : MethG P w K mg base 2 (cl 0) "take" (spM ⟨K, cl⟩ 4 f_Walk_take) := by
  refine ⟨f, fd, ["self", "row", "written", "given"], ?_, Fc.c_Walk, g, F.bindsN fun _ _ _ _ _ _ us hl => match us, hl with | [_, _, _, _], _ => rfl⟩
  refine def_okN (io := [true, false, false, false]) (more := 3) (m := m_Walk_take) F sc_Walk_take rfl rfl ?_
  intro cdv A outer s H E hr
  exact ⟨_, _, (pss_cons (ps_if (pt_not (pt_val (pe_callB (cr_all rfl) rfl Fc.f_all (by rfl) (pa_cons (pe_lc (own := [("read", 4)]) rfl sc_Walk_take.nd (pi_any (pe_g c_reads_of.quiet hr (by decide) passL rfl (pa_cons (pv 1) pa_nil))) (blkOk_by (N := ["self", "row", "written", "given", "read", "t", "write"]) (sc := defScope s_Walk_take) (own := [("read", 4)]) (by decide +kernel)) (fun _ _ _ _ _ => (pg_name (i := 4) sc_Walk_take.nd rfl (.inl rfl))) (fun _ _ _ _ _ => pts_nil) (fun _ _ _ _ _ => (pe_cmpR (op_inU hr.u65) (pv 4) (pv 2) (by with_unfolding_all rfl)))) pa_nil)))) (pss_one (ps_fld (pv 0) pe_bl rfl)) pss_nil) (pss_cons (ps_expr (pe_bm PySem.F.plainAttrs_list PySem.F.slot_list_append PySem.F.type_list_append mt_append (pe_fld (pv 0) rfl) (pa_cons (pv 2) pa_nil))) (pss_cons (ps_if (pt_cmpR (op_eqU hr.u64) (pe_ix (ix_U hr.u1) (pv 1) pe_int (fun _ _ => rfl)) (pe_gs rfl Fc.g_GIVE) (nomark _)) (pss_cons (ps_fld (pv 0) (pe_and (pe_fld (pv 0) rfl) (pe_one (pe_cmpR (op_ninU hr.u65) (pe_ix (ix_U hr.u1) (pv 1) pe_int (fun _ _ => rfl)) (pv 3) (by with_unfolding_all rfl)))) rfl) (pss_one (ps_set (i := 3) sc_Walk_take.nd rfl (.inl rfl) (pe_callB (cr_sortedV rfl hr.u64) rfl Fc.f_sorted (by rfl) (pa_cons (pe_g c_with_one.quiet hr (by decide) passL rfl (pa_cons (pv 3) (pa_cons (pe_ix (ix_U hr.u1) (pv 1) pe_int (fun _ _ => rfl)) pa_nil))) pa_nil))))) pss_nil) (pss_cons (ps_if (pt_cmpR (op_eqU hr.u64) (pe_ix (ix_U hr.u1) (pv 1) pe_int (fun _ _ => rfl)) (pe_gs rfl Fc.g_BACK) (nomark _)) (pss_cons (ps_fld (pv 0) (pe_and (pe_fld (pv 0) rfl) (pe_one (pe_cmpR (op_inU hr.u65) (pe_ix (ix_U hr.u1) (pv 1) pe_int (fun _ _ => rfl)) (pv 3) (by with_unfolding_all rfl)))) rfl) (pss_one (ps_setLc (i := 3) (own := [("t", 5)]) rfl sc_Walk_take.nd rfl rfl (sw_true rfl rfl rfl (by decide +kernel)) (pi_any (pv 3)) (blkOk_by (N := ["self", "row", "written", "given", "read", "t", "write"]) (sc := defScope s_Walk_take) (own := [("t", 5)]) (by decide +kernel)) (fun _ _ _ _ _ => (pg_name (i := 5) sc_Walk_take.nd rfl (.inl rfl))) (fun _ _ _ _ _ => pts_one (pt_cmpR (op_neU hr.u64) (pv 5) (pe_ix (ix_U hr.u1) (pv 1) pe_int (fun _ _ => rfl)) (nomark _))) (fun _ _ _ _ _ => (pv 5))))) pss_nil) (pss_cons (ps_expr (pe_bm PySem.F.plainAttrs_list PySem.F.slot_list_append PySem.F.type_list_append mt_append (pe_fld (pv 0) rfl) (pa_cons (pv 1) pa_nil))) (pss_cons (ps_expr (pe_bm PySem.F.plainAttrs_list PySem.F.slot_list_append PySem.F.type_list_append mt_append (pe_fld (pv 0) rfl) (pa_cons (pv 3) pa_nil))) (pss_cons (ps_set (i := 6) sc_Walk_take.nd rfl (.inl rfl) (pe_g c_write_of.quiet hr (by decide) passL rfl (pa_cons (pv 1) pa_nil))) (pss_one (ps_ret (pe_tup (pa_cons (pe_ifExp (pt_cmpR op_isN (pv 6) pe_non (nomark _)) (pv 2) (pe_callB (cr_sortedV rfl hr.u64) rfl Fc.f_sorted (by rfl) (pa_cons (pe_g c_with_one.quiet hr (by decide) passL rfl (pa_cons (pv 2) (pa_cons (pv 6) pa_nil))) pa_nil))) (pa_cons (pv 3) pa_nil)))))))))))), (tsm_seq (tsm_if (ttm_lift (ttv_not (ttv_B (tev_cb (tav_cons (tev_n (ten_lc (tiv_any (tev_call (qlen_cons qlen_nil) (tav_cons (tev_var (i := 1)) tav_nil))) tgq_name (by decide) ttv_yes (tev_op (tev_var (i := 4)) (tev_var (i := 2)) ov_in))) tav_nil) cb_all)))) (tsm_setF Fc.c_Walk Fc.n_Walk_right (tem_lift (tev_c fun _ => .bl _))) tsm_next) (tsm_seq (tsm_drop (tem_mtF Fc.c_Walk Fc.n_Walk_written (tav_cons (tev_var (i := 2)) tav_nil) lm_append)) (tsm_seq (tsm_if (ttm_lift (ttv_test (tev_op (tev_op (tev_var (i := 1)) (tev_c fun _ => .int _) ov_ix) (tev_c fun _ => .str _) ov_eq))) (tsm_seq (tsm_setF Fc.c_Walk Fc.n_Walk_right (tem_lift (tev_andV (tev_fld Fc.c_Walk Fc.n_Walk_right) (tev_op (tev_op (tev_var (i := 1)) (tev_c fun _ => .int _) ov_ix) (tev_var (i := 3)) ov_nin)))) (tsm_set (tem_lift (tev_n (ten_cb (tav_cons (tev_call (qlen_cons (qlen_cons qlen_nil)) (tav_cons (tev_var (i := 3)) (tav_cons (tev_op (tev_var (i := 1)) (tev_c fun _ => .int _) ov_ix) tav_nil))) tav_nil) cn_sortV))))) tsm_next) (tsm_seq (tsm_if (ttm_lift (ttv_test (tev_op (tev_op (tev_var (i := 1)) (tev_c fun _ => .int _) ov_ix) (tev_c fun _ => .str _) ov_eq))) (tsm_seq (tsm_setF Fc.c_Walk Fc.n_Walk_right (tem_lift (tev_andV (tev_fld Fc.c_Walk Fc.n_Walk_right) (tev_op (tev_op (tev_var (i := 1)) (tev_c fun _ => .int _) ov_ix) (tev_var (i := 3)) ov_in)))) (tsm_set (tem_lift (tev_n (ten_lc (tiv_any (tev_var (i := 3))) tgq_name (by decide) (ttv_test (tev_op (tev_var (i := 5)) (tev_op (tev_var (i := 1)) (tev_c fun _ => .int _) ov_ix) ov_ne)) (tev_var (i := 5))))))) tsm_next) (tsm_seq (tsm_drop (tem_mtF Fc.c_Walk Fc.n_Walk_rows (tav_cons (tev_var (i := 1)) tav_nil) lm_append)) (tsm_seq (tsm_drop (tem_mtF Fc.c_Walk Fc.n_Walk_held_out (tav_cons (tev_var (i := 3)) tav_nil) lm_append)) (tsm_seq (tsm_set (tem_lift (tev_call (qlen_cons qlen_nil) (tav_cons (tev_var (i := 1)) tav_nil)))) (tsm_ret (tem_lift (tev_tup (tav_cons (tev_if (ttv_test (tev_op (tev_var (i := 6)) (tev_c fun _ => .non) ov_isN)) (tev_var (i := 2)) (tev_n (ten_cb (tav_cons (tev_call (qlen_cons (qlen_cons qlen_nil)) (tav_cons (tev_var (i := 2)) (tav_cons (tev_var (i := 6)) tav_nil))) tav_nil) cn_sortV))) (tav_cons (tev_var (i := 3)) tav_nil)))))))))))), by decide⟩
abbrev s_Walk_item : Stmt := clsS 9 2
theorem sc_Walk_item : FnScope ["self", "item", "written", "given", "one", "held", "other", "kept"] ["self", "item", "written", "given"] (defScope s_Walk_item) := ⟨rfl, rfl, rfl, by decide +kernel, rfl, by decide +kernel, by decide +kernel⟩
noncomputable def m_Walk_item (r_Walk_item : List O → FR) (r_Walk_items : List O → FR) : MS := (sSeq (sIf (bLift (qB (qOp oEq (qOp oIx (qVar 1) (qC (.int 0))) (qC (.str "either"))))) (sSeq (sAsg (fTup 2 (fCons (fName 4) (fCons (fName 5) fNil))) (frzM (mMeth 0 0 "items" r_Walk_items [none, none, none] (mCons (mLift (qOp oIx (qVar 1) (qC (.int 1)))) (mCons (mLift (qVar 2)) (mCons (mLift (qVar 3)) mNil)))))) (sSeq (sAsg (fTup 2 (fCons (fName 6) (fCons (fName 7) fNil))) (frzM (mMeth 0 0 "items" r_Walk_items [none, none, none] (mCons (mLift (qOp oIx (qVar 1) (qC (.int 2)))) (mCons (mLift (qVar 2)) (mCons (mLift (qVar 3)) mNil)))))) (sSeq (sSetF 0 0 "right" (mLift (qAndV (qFld 0 0 "right") (qAndV (qOp oEq (qVar 5) (qVar 3)) (qOp oEq (qVar 7) (qVar 3)))))) (sRet (mLift (qTup (qCons (qCall (qOf f_in_both) (qCons (qVar 4) (qCons (qVar 6) qNil))) (qCons (qVar 3) qNil)))))))) sNext) (sSeq (sIf (bLift (qB (qOp oEq (qOp oIx (qVar 1) (qC (.int 0))) (qC (.str "round"))))) (sSeq (sSet 5 (mOp oIx (frzM (mMeth 0 0 "items" r_Walk_items [none, none, none] (mCons (mLift (qOp oIx (qVar 1) (qC (.int 1)))) (mCons (mLift (qVar 2)) (mCons (mLift (qVar 3)) mNil))))) (mLift (qC (.int 1))))) (sSeq (sSetF 0 0 "right" (mLift (qAndV (qFld 0 0 "right") (qOp oEq (qVar 5) (qVar 3))))) (sRet (mLift (qTup (qCons (qVar 2) (qCons (qVar 3) qNil))))))) sNext) (sRet (mMeth 0 0 "take" f_Walk_take [none, none, none] (mCons (mLift (qVar 1)) (mCons (mLift (qVar 2)) (mCons (mLift (qVar 3)) mNil)))))))
theorem ok_Walk_item {j : Nat} (hj : 2 ≤ j) {r_Walk_item r_Walk_items : List O → FR} {f : Addr} {fd : FuncData} (Fc : Fct K cl mg) (F : FunD K "item" "Walk.item" (defArgs s_Walk_item) (defBody s_Walk_item) (defScope s_Walk_item) [] [] f fd) (g : Meth K (cl 0) "item" f) (c_in_both : CalG P w K mg base 1 "in_both" (spM ⟨K, cl⟩ 2 f_in_both)) (c_Walk_take : MethG P w K mg base 2 (cl 0) "take" (spM ⟨K, cl⟩ 4 f_Walk_take)) (c_Walk_item : MethG P w K mg base j (cl 0) "item" (spM ⟨K, cl⟩ 4 r_Walk_item)) (c_Walk_items : MethG P w K mg base j (cl 0) "items" (spM ⟨K, cl⟩ 4 r_Walk_items)) : MethG P w K mg base (j + 1) (cl 0) "item" (spM ⟨K, cl⟩ 4 (defN 4 [true, false, false, false] (m_Walk_item r_Walk_item r_Walk_items))) := by
  refine ⟨f, fd, ["self", "item", "written", "given"], ?_, Fc.c_Walk, g, F.bindsN fun _ _ _ _ _ _ us hl => match us, hl with | [_, _, _, _], _ => rfl⟩
  refine def_okN (io := [true, false, false, false]) (more := 4) (m := (m_Walk_item r_Walk_item r_Walk_items)) F sc_Walk_item rfl rfl ?_
  intro cdv A outer s H E hr
  exact ⟨_, _, (pss_cons (ps_if (pt_cmpR (op_eqU hr.u64) (pe_ix (ix_U hr.u1) (pv 1) pe_int (fun _ _ => rfl)) (pe_gs rfl Fc.g_EITHER) (nomark _)) (pss_cons (ps_asg (pe_mth c_Walk_items hr (Nat.le_refl _) passL (pv 0) (pa_cons (pe_ix (ix_U hr.u1) (pv 1) pe_int (fun _ _ => rfl)) (pa_cons (pv 2) (pa_cons (pv 3) pa_nil)))) (pg_tup rfl (pgs_cons (pg_name (i := 4) sc_Walk_item.nd rfl (.inl rfl)) (pgs_cons (pg_name (i := 5) sc_Walk_item.nd rfl (.inl rfl)) pgs_nil)))) (pss_cons (ps_asg (pe_mth c_Walk_items hr (Nat.le_refl _) passL (pv 0) (pa_cons (pe_ix (ix_U hr.u1) (pv 1) pe_int (fun _ _ => rfl)) (pa_cons (pv 2) (pa_cons (pv 3) pa_nil)))) (pg_tup rfl (pgs_cons (pg_name (i := 6) sc_Walk_item.nd rfl (.inl rfl)) (pgs_cons (pg_name (i := 7) sc_Walk_item.nd rfl (.inl rfl)) pgs_nil)))) (pss_cons (ps_fld (pv 0) (pe_and (pe_fld (pv 0) rfl) (pe_and (pe_cmpR (op_eqU hr.u64) (pv 5) (pv 3) (nomark _)) (pe_one (pe_cmpR (op_eqU hr.u64) (pv 7) (pv 3) (nomark _))))) rfl) (pss_one (ps_ret (pe_tup (pa_cons (pe_g c_in_both.quiet hr (Nat.le_trans (by decide) hj) passL rfl (pa_cons (pv 4) (pa_cons (pv 6) pa_nil))) (pa_cons (pv 3) pa_nil)))))))) pss_nil) (pss_cons (ps_if (pt_cmpR (op_eqU hr.u64) (pe_ix (ix_U hr.u1) (pv 1) pe_int (fun _ _ => rfl)) (pe_gs rfl Fc.g_ROUND) (nomark _)) (pss_cons (ps_set (i := 5) sc_Walk_item.nd rfl (.inl rfl) (pe_ix (ix_U hr.u1) (pe_mth c_Walk_items hr (Nat.le_refl _) passL (pv 0) (pa_cons (pe_ix (ix_U hr.u1) (pv 1) pe_int (fun _ _ => rfl)) (pa_cons (pv 2) (pa_cons (pv 3) pa_nil)))) pe_int (fun _ _ => rfl))) (pss_cons (ps_fld (pv 0) (pe_and (pe_fld (pv 0) rfl) (pe_one (pe_cmpR (op_eqU hr.u64) (pv 5) (pv 3) (nomark _)))) rfl) (pss_one (ps_ret (pe_tup (pa_cons (pv 2) (pa_cons (pv 3) pa_nil))))))) pss_nil) (pss_one (ps_ret (pe_mth c_Walk_take hr (Nat.le_trans (by decide) hj) passL (pv 0) (pa_cons (pv 1) (pa_cons (pv 2) (pa_cons (pv 3) pa_nil)))))))), (tsm_seq (tsm_if (ttm_lift (ttv_test (tev_op (tev_op (tev_var (i := 1)) (tev_c fun _ => .int _) ov_ix) (tev_c fun _ => .str _) ov_eq))) (tsm_seq (tsm_asg (tgq_tup (tgsq_cons tgq_name (tgsq_cons tgq_name tgsq_nil))) (tem_frz (tem_meth rfl (tam_val (tem_lift (tev_op (tev_var (i := 1)) (tev_c fun _ => .int _) ov_ix)) (tam_val (tem_lift (tev_var (i := 2))) (tam_val (tem_lift (tev_var (i := 3))) tam_nil)))))) (tsm_seq (tsm_asg (tgq_tup (tgsq_cons tgq_name (tgsq_cons tgq_name tgsq_nil))) (tem_frz (tem_meth rfl (tam_val (tem_lift (tev_op (tev_var (i := 1)) (tev_c fun _ => .int _) ov_ix)) (tam_val (tem_lift (tev_var (i := 2))) (tam_val (tem_lift (tev_var (i := 3))) tam_nil)))))) (tsm_seq (tsm_setF Fc.c_Walk Fc.n_Walk_right (tem_lift (tev_andV (tev_fld Fc.c_Walk Fc.n_Walk_right) (tev_andV (tev_op (tev_var (i := 5)) (tev_var (i := 3)) ov_eq) (tev_op (tev_var (i := 7)) (tev_var (i := 3)) ov_eq))))) (tsm_ret (tem_lift (tev_tup (tav_cons (tev_call (qlen_cons (qlen_cons qlen_nil)) (tav_cons (tev_var (i := 4)) (tav_cons (tev_var (i := 6)) tav_nil))) (tav_cons (tev_var (i := 3)) tav_nil)))))))) tsm_next) (tsm_seq (tsm_if (ttm_lift (ttv_test (tev_op (tev_op (tev_var (i := 1)) (tev_c fun _ => .int _) ov_ix) (tev_c fun _ => .str _) ov_eq))) (tsm_seq (tsm_set (tem_op (tem_frz (tem_meth rfl (tam_val (tem_lift (tev_op (tev_var (i := 1)) (tev_c fun _ => .int _) ov_ix)) (tam_val (tem_lift (tev_var (i := 2))) (tam_val (tem_lift (tev_var (i := 3))) tam_nil))))) (tem_lift (tev_c fun _ => .int _)) ov_ix)) (tsm_seq (tsm_setF Fc.c_Walk Fc.n_Walk_right (tem_lift (tev_andV (tev_fld Fc.c_Walk Fc.n_Walk_right) (tev_op (tev_var (i := 5)) (tev_var (i := 3)) ov_eq)))) (tsm_ret (tem_lift (tev_tup (tav_cons (tev_var (i := 2)) (tav_cons (tev_var (i := 3)) tav_nil))))))) tsm_next) (tsm_ret (tem_meth rfl (tam_val (tem_lift (tev_var (i := 1))) (tam_val (tem_lift (tev_var (i := 2))) (tam_val (tem_lift (tev_var (i := 3))) tam_nil))))))), by decide⟩
theorem bad_Walk_item {j : Nat} {g : List O → FR} (hb : g = fun _ => .bad) {f : Addr} {fd : FuncData} (Fc : Fct K cl mg) (F : FunD K "item" "Walk.item" (defArgs s_Walk_item) (defBody s_Walk_item) (defScope s_Walk_item) [] [] f fd) (hm : Meth K (cl 0) "item" f) : MethG P w K mg base j (cl 0) "item" (spM ⟨K, cl⟩ 4 g) := MethG.bad (ps := ["self", "item", "written", "given"]) hb Fc.c_Walk hm (F.bindsN fun _ _ _ _ _ _ us hl => match us, hl with | [_, _, _, _], _ => rfl)
abbrev s_Walk_items : Stmt := clsS 9 3
theorem sc_Walk_items : FnScope ["self", "items", "written", "given", "item"] ["self", "items", "written", "given"] (defScope s_Walk_items) := ⟨rfl, rfl, rfl, by decide +kernel, rfl, by decide +kernel, by decide +kernel⟩
noncomputable def m_Walk_items (r_Walk_item : List O → FR) (r_Walk_items : List O → FR) : MS := (sSeq (sFor (iLift (qIfA (qVar 1))) (fName 4) (sAsg (fTup 2 (fCons (fName 2) (fCons (fName 3) fNil))) (frzM (mMeth 0 0 "item" r_Walk_item [none, none, none] (mCons (mLift (qVar 4)) (mCons (mLift (qVar 2)) (mCons (mLift (qVar 3)) mNil))))))) (sRet (mLift (qTup (qCons (qVar 2) (qCons (qVar 3) qNil))))))
theorem ok_Walk_items {j : Nat} (hj : 2 ≤ j) {r_Walk_item r_Walk_items : List O → FR} {f : Addr} {fd : FuncData} (Fc : Fct K cl mg) (F : FunD K "items" "Walk.items" (defArgs s_Walk_items) (defBody s_Walk_items) (defScope s_Walk_items) [] [] f fd) (g : Meth K (cl 0) "items" f) (c_Walk_item : MethG P w K mg base j (cl 0) "item" (spM ⟨K, cl⟩ 4 r_Walk_item)) (c_Walk_items : MethG P w K mg base j (cl 0) "items" (spM ⟨K, cl⟩ 4 r_Walk_items)) : MethG P w K mg base (j + 1) (cl 0) "items" (spM ⟨K, cl⟩ 4 (defN 1 [true, false, false, false] (m_Walk_items r_Walk_item r_Walk_items))) := by
  refine ⟨f, fd, ["self", "items", "written", "given"], ?_, Fc.c_Walk, g, F.bindsN fun _ _ _ _ _ _ us hl => match us, hl with | [_, _, _, _], _ => rfl⟩
  refine def_okN (io := [true, false, false, false]) (more := 1) (m := (m_Walk_items r_Walk_item r_Walk_items)) F sc_Walk_items rfl rfl ?_
  intro cdv A outer s H E hr
  exact ⟨_, _, (pss_cons (ps_for PassesOwn.never rfl (pi_any (pv 1)) (pg_name (i := 4) sc_Walk_items.nd rfl (.inl rfl)) (pss_one (ps_asg (pe_mth c_Walk_item hr (Nat.le_refl _) passL (pv 0) (pa_cons (pv 4) (pa_cons (pv 2) (pa_cons (pv 3) pa_nil)))) (pg_tup rfl (pgs_cons (pg_name (i := 2) sc_Walk_items.nd rfl (.inl rfl)) (pgs_cons (pg_name (i := 3) sc_Walk_items.nd rfl (.inl rfl)) pgs_nil)))))) (pss_one (ps_ret (pe_tup (pa_cons (pv 2) (pa_cons (pv 3) pa_nil)))))), (tsm_seq (tsm_for (tim_lift (tif_any (tev_var (i := 1)))) tgq_name (tsm_asg (tgq_tup (tgsq_cons tgq_name (tgsq_cons tgq_name tgsq_nil))) (tem_frz (tem_meth rfl (tam_val (tem_lift (tev_var (i := 4))) (tam_val (tem_lift (tev_var (i := 2))) (tam_val (tem_lift (tev_var (i := 3))) tam_nil))))))) (tsm_ret (tem_lift (tev_tup (tav_cons (tev_var (i := 2)) (tav_cons (tev_var (i := 3)) tav_nil)))))), by decide⟩
theorem bad_Walk_items {j : Nat} {g : List O → FR} (hb : g = fun _ => .bad) {f : Addr} {fd : FuncData} (Fc : Fct K cl mg) (F : FunD K "items" "Walk.items" (defArgs s_Walk_items) (defBody s_Walk_items) (defScope s_Walk_items) [] [] f fd) (hm : Meth K (cl 0) "items" f) : MethG P w K mg base j (cl 0) "items" (spM ⟨K, cl⟩ 4 g) := MethG.bad (ps := ["self", "items", "written", "given"]) hb Fc.c_Walk hm (F.bindsN fun _ _ _ _ _ _ us hl => match us, hl with | [_, _, _, _], _ => rfl)
noncomputable def grp_Walk_item : Nat → Nat → List O → FR
  | 0, _ => fun _ => .bad
  | n + 1, 0 => defN 4 [true, false, false, false] (m_Walk_item (grp_Walk_item n 0) (grp_Walk_item n 1))
  | n + 1, _ => defN 1 [true, false, false, false] (m_Walk_items (grp_Walk_item n 0) (grp_Walk_item n 1))
noncomputable def f_Walk_item : List O → FR := grp_Walk_item 45 0
noncomputable def f_Walk_items : List O → FR := grp_Walk_item 45 1
theorem all_Walk_item (Fc : Fct K cl mg) {a_Walk_item : Addr} {fd_Walk_item : FuncData} (F_Walk_item : FunD K "item" "Walk.item" (defArgs s_Walk_item) (defBody s_Walk_item) (defScope s_Walk_item) [] [] a_Walk_item fd_Walk_item) (g_Walk_item : Meth K (cl 0) "item" a_Walk_item) {a_Walk_items : Addr} {fd_Walk_items : FuncData} (F_Walk_items : FunD K "items" "Walk.items" (defArgs s_Walk_items) (defBody s_Walk_items) (defScope s_Walk_items) [] [] a_Walk_items fd_Walk_items) (g_Walk_items : Meth K (cl 0) "items" a_Walk_items) (c_in_both : CalG P w K mg base 1 "in_both" (spM ⟨K, cl⟩ 2 f_in_both)) (c_Walk_take : MethG P w K mg base 2 (cl 0) "take" (spM ⟨K, cl⟩ 4 f_Walk_take)) : ∀ n : Nat, MethG P w K mg base (2 + n) (cl 0) "item" (spM ⟨K, cl⟩ 4 (grp_Walk_item n 0)) ∧ MethG P w K mg base (2 + n) (cl 0) "items" (spM ⟨K, cl⟩ 4 (grp_Walk_item n 1))
  | 0 => ⟨bad_Walk_item rfl Fc F_Walk_item g_Walk_item, bad_Walk_items rfl Fc F_Walk_items g_Walk_items⟩
  | n + 1 => by
    have ih := all_Walk_item Fc F_Walk_item g_Walk_item F_Walk_items g_Walk_items c_in_both c_Walk_take n
    exact ⟨ok_Walk_item (Nat.le_add_right _ _) Fc F_Walk_item g_Walk_item c_in_both c_Walk_take ih.1 ih.2, ok_Walk_items (Nat.le_add_right _ _) Fc F_Walk_items g_Walk_items ih.1 ih.2⟩
abbrev s_walked : Stmt := topS 10
theorem sc_walked : FnScope ["program", "walk"] ["program"] (defScope s_walked) := ⟨rfl, rfl, rfl, by decide +kernel, rfl, by decide +kernel, by decide +kernel⟩
noncomputable def m_walked : MS := (sSeq (sSet 1 (mMake 0 f_Walk___init__ mNil)) (sSeq (sDrop (mMeth 0 1 "items" f_Walk_items [none, none, none] (mCons (mLift (qOp oIx (qVar 0) (qC (.int 1)))) (mCons (mLift (qFz (qLst qNil))) (mCons (mLift (qFz (qLst qNil))) mNil))))) (sRet (mMove 1))))
noncomputable def f_walked : List O → FR := defN 1 [false] m_walked
theorem ok_walked {f : Addr} {fd : FuncData} (Fc : Fct K cl mg) (F : FunD K "walked" "walked" (defArgs s_walked) (defBody s_walked) (defScope s_walked) [] [] f fd) (g : mg "walked" = some (.ref f)) (c_Walk___init__ : MakG P w K mg base 1 "Walk" (cl 0) (spM ⟨K, cl⟩ 1 f_Walk___init__)) (c_Walk_items : MethG P w K mg base 47 (cl 0) "items" (spM ⟨K, cl⟩ 4 f_Walk_items)) : CalG P w K mg base 48 "walked" (spM ⟨K, cl⟩ 1 f_walked) := by
  refine ⟨f, fd, ["program"], ?_, g, F.kp, F.bindsN fun _ _ _ _ _ _ us hl => match us, hl with | [_], _ => rfl⟩
  refine def_okN (io := [false]) (more := 1) (m := m_walked) F sc_walked rfl rfl ?_
  intro cdv A outer s H E hr
  exact ⟨_, _, (pss_cons (ps_set (i := 1) sc_walked.nd rfl (.inl rfl) (pe_new0 c_Walk___init__ hr (by decide) passL rfl)) (pss_cons (ps_expr (pe_mth c_Walk_items hr (by decide) passL (pv 1) (pa_cons (pe_ix (ix_U hr.u1) (pv 0) pe_int (fun _ _ => rfl)) (pa_cons (pe_lst pa_nil) (pa_cons (pe_lst pa_nil) pa_nil))))) (pss_one (ps_ret (pv 1))))), (tsm_seq (tsm_set (tem_make rfl tam_nil nil_len)) (tsm_seq (tsm_drop (tem_meth rfl (tam_val (tem_lift (tev_op (tev_var (i := 0)) (tev_c fun _ => .int _) ov_ix)) (tam_val (tem_lift (tev_n (ten_lst tav_nil))) (tam_val (tem_lift (tev_n (ten_lst tav_nil))) tam_nil))))) (tsm_ret tem_move))), by decide⟩
abbrev s_read_on : Stmt := topS 15
theorem sc_read_on : FnScope ["rows", "others", "known", "found", "other", "t"] ["rows", "others", "known"] (defScope s_read_on) := ⟨rfl, rfl, rfl, by decide +kernel, rfl, by decide +kernel, by decide +kernel⟩
noncomputable def m_read_on : MS := (sSeq (sSet 3 (mLift (qFz (qLst qNil)))) (sSeq (sFor (iLift (qIfA (qVar 1))) (fName 4) (sSeq (sFor (iLift (qIfA (qCall (qOf f_reads_of) (qCons (qOp oIx (qVar 0) (qVar 4)) qNil)))) (fName 5) (sSet 3 (mLift (qCall (qOf f_with_one) (qCons (qVar 3) (qCons (qVar 5) qNil)))))) (sFor (iLift (qIfA (qOp oIx (qVar 2) (qVar 4)))) (fName 5) (sIf (bLift (qB (qOp oNe (qVar 5) (qCall (qOf f_write_of) (qCons (qOp oIx (qVar 0) (qVar 4)) qNil))))) (sSet 3 (mLift (qCall (qOf f_with_one) (qCons (qVar 3) (qCons (qVar 5) qNil))))) sNext)))) (sRet (mNew (qCb oSortV (qCons (qVar 3) qNil))))))
noncomputable def f_read_on : List O → FR := defN 3 [false, false, true] m_read_on
theorem ok_read_on {f : Addr} {fd : FuncData} (Fc : Fct K cl mg) (F : FunD K "read_on" "read_on" (defArgs s_read_on) (defBody s_read_on) (defScope s_read_on) [] [] f fd) (g : mg "read_on" = some (.ref f)) (c_reads_of : CalG P w K mg base 1 "reads_of" (spM ⟨K, cl⟩ 1 f_reads_of)) (c_with_one : CalG P w K mg base 1 "with_one" (spM ⟨K, cl⟩ 2 f_with_one)) (c_write_of : CalG P w K mg base 1 "write_of" (spM ⟨K, cl⟩ 1 f_write_of)) : CalG P w K mg base 2 "read_on" (spM ⟨K, cl⟩ 3 f_read_on) := by
  refine ⟨f, fd, ["rows", "others", "known"], ?_, g, F.kp, F.bindsN fun _ _ _ _ _ _ us hl => match us, hl with | [_, _, _], _ => rfl⟩
  refine def_okN (io := [false, false, true]) (more := 3) (m := m_read_on) F sc_read_on rfl rfl ?_
  intro cdv A outer s H E hr
  exact ⟨_, _, (pss_cons (ps_set (i := 3) sc_read_on.nd rfl (.inl rfl) (pe_lst pa_nil)) (pss_cons (ps_for PassesOwn.never rfl (pi_any (pv 1)) (pg_name (i := 4) sc_read_on.nd rfl (.inl rfl)) (pss_cons (ps_for PassesOwn.never rfl (pi_any (pe_g c_reads_of.quiet hr (by decide) passL rfl (pa_cons (pe_ix (ix_U hr.u1) (pv 0) (pv 4) (fun _ _ => rfl)) pa_nil))) (pg_name (i := 5) sc_read_on.nd rfl (.inl rfl)) (pss_one (ps_set (i := 3) sc_read_on.nd rfl (.inl rfl) (pe_g c_with_one.quiet hr (by decide) passL rfl (pa_cons (pv 3) (pa_cons (pv 5) pa_nil)))))) (pss_one (ps_for PassesOwn.never rfl (pi_any (pe_ix (ix_U hr.u1) (pv 2) (pv 4) (fun _ _ => rfl))) (pg_name (i := 5) sc_read_on.nd rfl (.inl rfl)) (pss_one (ps_if (pt_cmpR (op_neU hr.u64) (pv 5) (pe_g c_write_of.quiet hr (by decide) passL rfl (pa_cons (pe_ix (ix_U hr.u1) (pv 0) (pv 4) (fun _ _ => rfl)) pa_nil)) (nomark _)) (pss_one (ps_set (i := 3) sc_read_on.nd rfl (.inl rfl) (pe_g c_with_one.quiet hr (by decide) passL rfl (pa_cons (pv 3) (pa_cons (pv 5) pa_nil))))) pss_nil)))))) (pss_one (ps_ret (pe_callB (cr_sortedV rfl hr.u64) rfl Fc.f_sorted (by rfl) (pa_cons (pv 3) pa_nil)))))), (tsm_seq (tsm_set (tem_lift (tev_n (ten_lst tav_nil)))) (tsm_seq (tsm_for (tim_lift (tif_any (tev_var (i := 1)))) tgq_name (tsm_seq (tsm_for (tim_lift (tif_any (tev_call (qlen_cons qlen_nil) (tav_cons (tev_op (tev_var (i := 0)) (tev_var (i := 4)) ov_ix) tav_nil)))) tgq_name (tsm_set (tem_lift (tev_call (qlen_cons (qlen_cons qlen_nil)) (tav_cons (tev_var (i := 3)) (tav_cons (tev_var (i := 5)) tav_nil)))))) (tsm_for (tim_lift (tif_any (tev_op (tev_var (i := 2)) (tev_var (i := 4)) ov_ix))) tgq_name (tsm_if (ttm_lift (ttv_test (tev_op (tev_var (i := 5)) (tev_call (qlen_cons qlen_nil) (tav_cons (tev_op (tev_var (i := 0)) (tev_var (i := 4)) ov_ix) tav_nil)) ov_ne))) (tsm_set (tem_lift (tev_call (qlen_cons (qlen_cons qlen_nil)) (tav_cons (tev_var (i := 3)) (tav_cons (tev_var (i := 5)) tav_nil))))) tsm_next)))) (tsm_ret (tem_new (ten_cb (tav_cons (tev_var (i := 3)) tav_nil) cn_sortV))))), by decide⟩
abbrev s_read_ahead : Stmt := topS 16
theorem sc_read_ahead : FnScope ["rows", "nexts", "found", "row", "changed", "place", "some"] ["rows", "nexts"] (defScope s_read_ahead) := ⟨rfl, rfl, rfl, by decide +kernel, rfl, by decide +kernel, by decide +kernel⟩
noncomputable def m_read_ahead : MS := (sSeq (sSet 2 (mNew (qLc (qItA (qVar 0)) (fName 3) qYes (qFz (qLst qNil)) [3]))) (sSeq (sSet 4 (mLift (qC (.bool true)))) (sSeq (sWhile (bLift (qB (qVar 4))) (sSeq (sSet 4 (mLift (qC (.bool false)))) (sFor (iLift (qRng3 (qCons (qOp oSub (qCb oLen (qCons (qVar 0) qNil)) (qC (.int 1))) (qCons (qUn oNeg (qC (.int 1))) (qCons (qUn oNeg (qC (.int 1))) qNil))))) (fName 5) (sSeq (sSet 6 (frzM (mCall f_read_on [none, none, some 2] (mCons (mLift (qVar 0)) (mCons (mLift (qOp oIx (qVar 1) (qVar 5))) (mRef 2 mNil)))))) (sSeq (sSet 4 (mLift (qOrV (qVar 4) (qOp oNe (qVar 6) (qOp oIx (qVar 2) (qVar 5)))))) (sSetU 2 (qVar 5) (mLift (qVar 6)))))))) (sRet (mMove 2)))))
noncomputable def f_read_ahead : List O → FR := defN 5 [false, false] m_read_ahead
theorem ok_read_ahead {f : Addr} {fd : FuncData} (Fc : Fct K cl mg) (F : FunD K "read_ahead" "read_ahead" (defArgs s_read_ahead) (defBody s_read_ahead) (defScope s_read_ahead) [] [] f fd) (g : mg "read_ahead" = some (.ref f)) (c_read_on : CalG P w K mg base 2 "read_on" (spM ⟨K, cl⟩ 3 f_read_on)) : CalG P w K mg base 3 "read_ahead" (spM ⟨K, cl⟩ 2 f_read_ahead) := by
  refine ⟨f, fd, ["rows", "nexts"], ?_, g, F.kp, F.bindsN fun _ _ _ _ _ _ us hl => match us, hl with | [_, _], _ => rfl⟩
  refine def_okN (io := [false, false]) (more := 5) (m := m_read_ahead) F sc_read_ahead rfl rfl ?_
  intro cdv A outer s H E hr
  exact ⟨_, _, (pss_cons (ps_setLc (i := 2) (own := [("row", 3)]) rfl sc_read_ahead.nd rfl rfl (sw_true rfl rfl rfl (by decide +kernel)) (pi_any (pv 0)) (blkOk_by (N := ["rows", "nexts", "found", "row", "changed", "place", "some"]) (sc := defScope s_read_ahead) (own := [("row", 3)]) (by decide +kernel)) (fun _ _ _ _ _ => (pg_name (i := 3) sc_read_ahead.nd rfl (.inl rfl))) (fun _ _ _ _ _ => pts_nil) (fun _ _ _ _ _ => (pe_lst pa_nil))) (pss_cons (ps_set (i := 4) sc_read_ahead.nd rfl (.inl rfl) pe_bl) (pss_cons (ps_while PassesOwn.never (pt_val (pv 4)) (pss_cons (ps_set (i := 4) sc_read_ahead.nd rfl (.inl rfl) pe_bl) (pss_one (ps_for PassesOwn.never rfl (pi_range3 rfl Fc.f_range (pa_cons (pe_op op_sub (pe_callB call_lenU rfl Fc.f_len (by rfl) (pa_cons (pv 0) pa_nil)) pe_int) (pa_cons (pe_un un_neg pe_int) (pa_cons (pe_un un_neg pe_int) pa_nil)))) (pg_name (i := 5) sc_read_ahead.nd rfl (.inl rfl)) (pss_cons (ps_set (i := 6) sc_read_ahead.nd rfl (.inl rfl) (pe_g c_read_on hr (by decide) passL rfl (pa_cons (pv 0) (pa_cons (pe_ix (ix_U hr.u1) (pv 1) (pv 5) (fun _ _ => rfl)) (pa_cons (pv 2) pa_nil))))) (pss_cons (ps_set (i := 4) sc_read_ahead.nd rfl (.inl rfl) (pe_or (pv 4) (pe_one (pe_cmpR (op_neU hr.u64) (pv 6) (pe_ix (ix_U hr.u1) (pv 2) (pv 5) (fun _ _ => rfl)) (nomark _))))) (pss_one (ps_asg (pv 6) (pg_sub (pv 2) (pv 5) (set_U hr.u1)))))))))) (pss_one (ps_ret (pv 2)))))), (tsm_seq (tsm_set (tem_new (ten_lc (tiv_any (tev_var (i := 0))) tgq_name (by decide) ttv_yes (tev_n (ten_lst tav_nil))))) (tsm_seq (tsm_set (tem_lift (tev_c fun _ => .bl _))) (tsm_seq (tsm_while (ttm_lift (ttv_B (tev_var (i := 4)))) (tsm_seq (tsm_set (tem_lift (tev_c fun _ => .bl _))) (tsm_for (tim_lift (tif_rng3 (tav_cons (tev_op (tev_cb (tav_cons (tev_var (i := 0)) tav_nil) cb_len) (tev_c fun _ => .int _) ov_sub) (tav_cons (tev_un (tev_c fun _ => .int _) uv_neg) (tav_cons (tev_un (tev_c fun _ => .int _) uv_neg) tav_nil))))) tgq_name (tsm_seq (tsm_set (tem_frz (tem_call rfl (tam_val (tem_lift (tev_var (i := 0))) (tam_val (tem_lift (tev_op (tev_var (i := 1)) (tev_var (i := 5)) ov_ix)) (tam_ref tam_nil)))))) (tsm_seq (tsm_set (tem_lift (tev_orV (tev_var (i := 4)) (tev_op (tev_var (i := 6)) (tev_op (tev_var (i := 2)) (tev_var (i := 5)) ov_ix) ov_ne)))) (tsm_setU (tem_lift (tev_var (i := 6))) (tev_var (i := 5)))))))) (tsm_ret tem_move)))), by decide⟩
abbrev s_Flow___init__ : Stmt := clsS 12 0
theorem sc_Flow___init__ : FnScope ["self"] ["self"] (defScope s_Flow___init__) := ⟨rfl, rfl, rfl, by decide +kernel, rfl, by decide +kernel, by decide +kernel⟩
noncomputable def m_Flow___init__ : MS := (sSetF 1 0 "nexts" (mNew (qLst qNil)))
noncomputable def f_Flow___init__ : List O → FR := defN 0 [true] m_Flow___init__
theorem ok_Flow___init__ {f : Addr} {fd : FuncData} (Fc : Fct K cl mg) (F : FunD K "__init__" "Flow.__init__" (defArgs s_Flow___init__) (defBody s_Flow___init__) (defScope s_Flow___init__) [] [] f fd) (g : Mk K (cl 1) f ∧ mg "Flow" = some (.ref (cl 1))) : MakG P w K mg base 1 "Flow" (cl 1) (spM ⟨K, cl⟩ 1 f_Flow___init__) := by
  refine ⟨f, fd, ["self"], ?_, g.1, g.2, F.bindsN fun _ _ _ _ _ _ us hl => match us, hl with | [_], _ => rfl⟩
  refine def_okN (io := [true]) (more := 0) (m := m_Flow___init__) F sc_Flow___init__ rfl rfl ?_
  intro cdv A outer s H E hr
  exact ⟨_, _, (pss_one (ps_fld (pv 0) (pe_lst pa_nil) rfl)), (tsm_setF Fc.c_Flow Fc.n_Flow_nexts (tem_new (ten_lst tav_nil))), by decide⟩
abbrev s_Flow_linked : Stmt := clsS 12 1
theorem sc_Flow_linked : FnScope ["self", "ends", "begins", "one", "other"] ["self", "ends", "begins"] (defScope s_Flow_linked) := ⟨rfl, rfl, rfl, by decide +kernel, rfl, by decide +kernel, by decide +kernel⟩
noncomputable def m_Flow_linked : MS := (sFor (iLift (qIfA (qVar 1))) (fName 3) (sFor (iLift (qIfA (qVar 2))) (fName 4) (sSetN 1 0 "nexts" (qVar 3) (qVar 4) (mLift (qC (.bool true))))))
noncomputable def f_Flow_linked : List O → FR := defN 2 [true, false, false] m_Flow_linked
theorem ok_Flow_linked {f : Addr} {fd : FuncData} (Fc : Fct K cl mg) (F : FunD K "linked" "Flow.linked" (defArgs s_Flow_linked) (defBody s_Flow_linked) (defScope s_Flow_linked) [] [] f fd) (g : Meth K (cl 1) "linked" f) : MethG P w K mg base 1 (cl 1) "linked" (spM ⟨K, cl⟩ 3 f_Flow_linked) := by
  refine ⟨f, fd, ["self", "ends", "begins"], ?_, Fc.c_Flow, g, F.bindsN fun _ _ _ _ _ _ us hl => match us, hl with | [_, _, _], _ => rfl⟩
  refine def_okN (io := [true, false, false]) (more := 2) (m := m_Flow_linked) F sc_Flow_linked rfl rfl ?_
  intro cdv A outer s H E hr
  exact ⟨_, _, (pss_one (ps_for PassesOwn.never rfl (pi_any (pv 1)) (pg_name (i := 3) sc_Flow_linked.nd rfl (.inl rfl)) (pss_one (ps_for PassesOwn.never rfl (pi_any (pv 2)) (pg_name (i := 4) sc_Flow_linked.nd rfl (.inl rfl)) (pss_one (ps_asg pe_bl (pg_sub (pe_ix (ix_U hr.u1) (pe_fld (pv 0) rfl) (pv 3) (fun _ _ => rfl)) (pv 4) (set_U hr.u1)))))))), (tsm_for (tim_lift (tif_any (tev_var (i := 1)))) tgq_name (tsm_for (tim_lift (tif_any (tev_var (i := 2)))) tgq_name (tsm_setN Fc.c_Flow Fc.n_Flow_nexts (tem_lift (tev_c fun _ => .bl _)) (tev_var (i := 3)) (tev_var (i := 4))))), by decide⟩
abbrev s_Flow_item : Stmt := clsS 12 2
theorem sc_Flow_item : FnScope ["self", "item", "one", "other", "begins", "ends", "bare"] ["self", "item"] (defScope s_Flow_item) := ⟨rfl, rfl, rfl, by decide +kernel, rfl, by decide +kernel, by decide +kernel⟩
noncomputable def m_Flow_item (r_Flow_item : List O → FR) (r_Flow_items : List O → FR) : MS := (sSeq (sIf (bLift (qB (qOp oEq (qOp oIx (qVar 1) (qC (.int 0))) (qC (.str "either"))))) (sSeq (sPar 2 3 (mCons (frzM (mMeth 1 0 "items" r_Flow_items [none] (mCons (mLift (qOp oIx (qVar 1) (qC (.int 1)))) mNil))) (mCons (frzM (mMeth 1 0 "items" r_Flow_items [none] (mCons (mLift (qOp oIx (qVar 1) (qC (.int 2)))) mNil))) mNil))) (sRet (mLift (qTup (qCons (qOp oAdd (qOp oIx (qVar 2) (qC (.int 0))) (qOp oIx (qVar 3) (qC (.int 0)))) (qCons (qOp oAdd (qOp oIx (qVar 2) (qC (.int 1))) (qOp oIx (qVar 3) (qC (.int 1)))) (qCons (qOrV (qOp oIx (qVar 2) (qC (.int 2))) (qOp oIx (qVar 3) (qC (.int 2)))) qNil))))))) sNext) (sSeq (sIf (bLift (qB (qOp oEq (qOp oIx (qVar 1) (qC (.int 0))) (qC (.str "round"))))) (sSeq (sAsg (fTup 3 (fCons (fName 4) (fCons (fName 5) (fCons (fName 6) fNil)))) (frzM (mMeth 1 0 "items" r_Flow_items [none] (mCons (mLift (qOp oIx (qVar 1) (qC (.int 1)))) mNil)))) (sSeq (sDrop (mMeth 1 0 "linked" f_Flow_linked [none, none] (mCons (mLift (qVar 5)) (mCons (mLift (qVar 4)) mNil)))) (sRet (mLift (qTup (qCons (qVar 4) (qCons (qVar 5) (qCons (qC (.bool true)) qNil)))))))) sNext) (sSeq (sDrop (mAppF 1 0 "nexts" qDk0)) (sRet (mLift (qTup (qCons (qFz (qLst (qCons (qOp oSub (qCb oLen (qCons (qFld 1 0 "nexts") qNil)) (qC (.int 1))) qNil))) (qCons (qFz (qLst (qCons (qOp oSub (qCb oLen (qCons (qFld 1 0 "nexts") qNil)) (qC (.int 1))) qNil))) (qCons (qC (.bool false)) qNil)))))))))
theorem ok_Flow_item {j : Nat} (hj : 1 ≤ j) {r_Flow_item r_Flow_items : List O → FR} {f : Addr} {fd : FuncData} (Fc : Fct K cl mg) (F : FunD K "item" "Flow.item" (defArgs s_Flow_item) (defBody s_Flow_item) (defScope s_Flow_item) [] [] f fd) (g : Meth K (cl 1) "item" f) (c_Flow_linked : MethG P w K mg base 1 (cl 1) "linked" (spM ⟨K, cl⟩ 3 f_Flow_linked)) (c_Flow_item : MethG P w K mg base j (cl 1) "item" (spM ⟨K, cl⟩ 2 r_Flow_item)) (c_Flow_items : MethG P w K mg base j (cl 1) "items" (spM ⟨K, cl⟩ 2 r_Flow_items)) : MethG P w K mg base (j + 1) (cl 1) "item" (spM ⟨K, cl⟩ 2 (defN 5 [true, false] (m_Flow_item r_Flow_item r_Flow_items))) := by
  refine ⟨f, fd, ["self", "item"], ?_, Fc.c_Flow, g, F.bindsN fun _ _ _ _ _ _ us hl => match us, hl with | [_, _], _ => rfl⟩
  refine def_okN (io := [true, false]) (more := 5) (m := (m_Flow_item r_Flow_item r_Flow_items)) F sc_Flow_item rfl rfl ?_
  intro cdv A outer s H E hr
  exact ⟨_, _, (pss_cons (ps_if (pt_cmpR (op_eqU hr.u64) (pe_ix (ix_U hr.u1) (pv 1) pe_int (fun _ _ => rfl)) (pe_gs rfl Fc.g_EITHER) (nomark _)) (pss_cons (ps_par (i := 2) (j := 3) rfl sc_Flow_item.nd rfl rfl (by decide) rfl rfl (pa_cons (pe_mth c_Flow_items hr (Nat.le_refl _) passL (pv 0) (pa_cons (pe_ix (ix_U hr.u1) (pv 1) pe_int (fun _ _ => rfl)) pa_nil)) (pa_cons (pe_mth c_Flow_items hr (Nat.le_refl _) passL (pv 0) (pa_cons (pe_ix (ix_U hr.u1) (pv 1) pe_int (fun _ _ => rfl)) pa_nil)) pa_nil)) rfl) (pss_one (ps_ret (pe_tup (pa_cons (pe_op op_addU (pe_ix (ix_U hr.u1) (pv 2) pe_int (fun _ _ => rfl)) (pe_ix (ix_U hr.u1) (pv 3) pe_int (fun _ _ => rfl))) (pa_cons (pe_op op_addU (pe_ix (ix_U hr.u1) (pv 2) pe_int (fun _ _ => rfl)) (pe_ix (ix_U hr.u1) (pv 3) pe_int (fun _ _ => rfl))) (pa_cons (pe_or (pe_ix (ix_U hr.u1) (pv 2) pe_int (fun _ _ => rfl)) (pe_one (pe_ix (ix_U hr.u1) (pv 3) pe_int (fun _ _ => rfl)))) pa_nil))))))) pss_nil) (pss_cons (ps_if (pt_cmpR (op_eqU hr.u64) (pe_ix (ix_U hr.u1) (pv 1) pe_int (fun _ _ => rfl)) (pe_gs rfl Fc.g_ROUND) (nomark _)) (pss_cons (ps_asg (pe_mth c_Flow_items hr (Nat.le_refl _) passL (pv 0) (pa_cons (pe_ix (ix_U hr.u1) (pv 1) pe_int (fun _ _ => rfl)) pa_nil)) (pg_tup rfl (pgs_cons (pg_name (i := 4) sc_Flow_item.nd rfl (.inl rfl)) (pgs_cons (pg_name (i := 5) sc_Flow_item.nd rfl (.inl rfl)) (pgs_cons (pg_name (i := 6) sc_Flow_item.nd rfl (.inl rfl)) pgs_nil))))) (pss_cons (ps_expr (pe_mth c_Flow_linked hr (Nat.le_trans (by decide) hj) passL (pv 0) (pa_cons (pv 5) (pa_cons (pv 4) pa_nil)))) (pss_one (ps_ret (pe_tup (pa_cons (pv 4) (pa_cons (pv 5) (pa_cons pe_bl pa_nil)))))))) pss_nil) (pss_cons (ps_expr (pe_bm PySem.F.plainAttrs_list PySem.F.slot_list_append PySem.F.type_list_append mt_append (pe_fld (pv 0) rfl) (pa_cons pe_dnewK pa_nil))) (pss_one (ps_ret (pe_tup (pa_cons (pe_lst (pa_cons (pe_op op_sub (pe_callB call_lenU rfl Fc.f_len (by rfl) (pa_cons (pe_fld (pv 0) rfl) pa_nil)) pe_int) pa_nil)) (pa_cons (pe_lst (pa_cons (pe_op op_sub (pe_callB call_lenU rfl Fc.f_len (by rfl) (pa_cons (pe_fld (pv 0) rfl) pa_nil)) pe_int) pa_nil)) (pa_cons pe_bl pa_nil))))))))), (tsm_seq (tsm_if (ttm_lift (ttv_test (tev_op (tev_op (tev_var (i := 1)) (tev_c fun _ => .int _) ov_ix) (tev_c fun _ => .str _) ov_eq))) (tsm_seq (tsm_par (tam_val (tem_frz (tem_meth rfl (tam_val (tem_lift (tev_op (tev_var (i := 1)) (tev_c fun _ => .int _) ov_ix)) tam_nil))) (tam_val (tem_frz (tem_meth rfl (tam_val (tem_lift (tev_op (tev_var (i := 1)) (tev_c fun _ => .int _) ov_ix)) tam_nil))) tam_nil))) (tsm_ret (tem_lift (tev_tup (tav_cons (tev_op (tev_op (tev_var (i := 2)) (tev_c fun _ => .int _) ov_ix) (tev_op (tev_var (i := 3)) (tev_c fun _ => .int _) ov_ix) ov_add) (tav_cons (tev_op (tev_op (tev_var (i := 2)) (tev_c fun _ => .int _) ov_ix) (tev_op (tev_var (i := 3)) (tev_c fun _ => .int _) ov_ix) ov_add) (tav_cons (tev_orV (tev_op (tev_var (i := 2)) (tev_c fun _ => .int _) ov_ix) (tev_op (tev_var (i := 3)) (tev_c fun _ => .int _) ov_ix)) tav_nil))))))) tsm_next) (tsm_seq (tsm_if (ttm_lift (ttv_test (tev_op (tev_op (tev_var (i := 1)) (tev_c fun _ => .int _) ov_ix) (tev_c fun _ => .str _) ov_eq))) (tsm_seq (tsm_asg (tgq_tup (tgsq_cons tgq_name (tgsq_cons tgq_name (tgsq_cons tgq_name tgsq_nil)))) (tem_frz (tem_meth rfl (tam_val (tem_lift (tev_op (tev_var (i := 1)) (tev_c fun _ => .int _) ov_ix)) tam_nil)))) (tsm_seq (tsm_drop (tem_meth rfl (tam_val (tem_lift (tev_var (i := 5))) (tam_val (tem_lift (tev_var (i := 4))) tam_nil)))) (tsm_ret (tem_lift (tev_tup (tav_cons (tev_var (i := 4)) (tav_cons (tev_var (i := 5)) (tav_cons (tev_c fun _ => .bl _) tav_nil)))))))) tsm_next) (tsm_seq (tsm_drop (tem_appF Fc.c_Flow Fc.n_Flow_nexts ten_dk0)) (tsm_ret (tem_lift (tev_tup (tav_cons (tev_n (ten_lst (tav_cons (tev_op (tev_cb (tav_cons (tev_fld Fc.c_Flow Fc.n_Flow_nexts) tav_nil) cb_len) (tev_c fun _ => .int _) ov_sub) tav_nil))) (tav_cons (tev_n (ten_lst (tav_cons (tev_op (tev_cb (tav_cons (tev_fld Fc.c_Flow Fc.n_Flow_nexts) tav_nil) cb_len) (tev_c fun _ => .int _) ov_sub) tav_nil))) (tav_cons (tev_c fun _ => .bl _) tav_nil))))))))), by decide⟩
theorem bad_Flow_item {j : Nat} {g : List O → FR} (hb : g = fun _ => .bad) {f : Addr} {fd : FuncData} (Fc : Fct K cl mg) (F : FunD K "item" "Flow.item" (defArgs s_Flow_item) (defBody s_Flow_item) (defScope s_Flow_item) [] [] f fd) (hm : Meth K (cl 1) "item" f) : MethG P w K mg base j (cl 1) "item" (spM ⟨K, cl⟩ 2 g) := MethG.bad (ps := ["self", "item"]) hb Fc.c_Flow hm (F.bindsN fun _ _ _ _ _ _ us hl => match us, hl with | [_, _], _ => rfl)
abbrev s_Flow_items : Stmt := clsS 12 3
theorem sc_Flow_items : FnScope ["self", "items", "begins", "ends", "bare", "item", "firsts", "lasts", "empty"] ["self", "items"] (defScope s_Flow_items) := ⟨rfl, rfl, rfl, by decide +kernel, rfl, by decide +kernel, by decide +kernel⟩
noncomputable def m_Flow_items (r_Flow_item : List O → FR) (r_Flow_items : List O → FR) : MS := (sSeq (sPar3 2 3 4 (mCons (mLift (qFz (qLst qNil))) (mCons (mLift (qFz (qLst qNil))) (mCons (mLift (qC (.bool true))) mNil)))) (sSeq (sFor (iLift (qIfA (qVar 1))) (fName 5) (sSeq (sAsg (fTup 3 (fCons (fName 6) (fCons (fName 7) (fCons (fName 8) fNil)))) (frzM (mMeth 1 0 "item" r_Flow_item [none] (mCons (mLift (qVar 5)) mNil)))) (sSeq (sDrop (mMeth 1 0 "linked" f_Flow_linked [none, none] (mCons (mLift (qVar 3)) (mCons (mLift (qVar 6)) mNil)))) (sSeq (sSet 2 (mLift (qIf (qB (qVar 4)) (qOp oAdd (qVar 2) (qVar 6)) (qVar 2)))) (sSeq (sSet 3 (mLift (qIf (qB (qVar 8)) (qOp oAdd (qVar 3) (qVar 7)) (qVar 7)))) (sSet 4 (mLift (qAndV (qVar 4) (qVar 8))))))))) (sRet (mLift (qTup (qCons (qVar 2) (qCons (qVar 3) (qCons (qVar 4) qNil))))))))
theorem ok_Flow_items {j : Nat} (hj : 1 ≤ j) {r_Flow_item r_Flow_items : List O → FR} {f : Addr} {fd : FuncData} (Fc : Fct K cl mg) (F : FunD K "items" "Flow.items" (defArgs s_Flow_items) (defBody s_Flow_items) (defScope s_Flow_items) [] [] f fd) (g : Meth K (cl 1) "items" f) (c_Flow_linked : MethG P w K mg base 1 (cl 1) "linked" (spM ⟨K, cl⟩ 3 f_Flow_linked)) (c_Flow_item : MethG P w K mg base j (cl 1) "item" (spM ⟨K, cl⟩ 2 r_Flow_item)) (c_Flow_items : MethG P w K mg base j (cl 1) "items" (spM ⟨K, cl⟩ 2 r_Flow_items)) : MethG P w K mg base (j + 1) (cl 1) "items" (spM ⟨K, cl⟩ 2 (defN 7 [true, false] (m_Flow_items r_Flow_item r_Flow_items))) := by
  refine ⟨f, fd, ["self", "items"], ?_, Fc.c_Flow, g, F.bindsN fun _ _ _ _ _ _ us hl => match us, hl with | [_, _], _ => rfl⟩
  refine def_okN (io := [true, false]) (more := 7) (m := (m_Flow_items r_Flow_item r_Flow_items)) F sc_Flow_items rfl rfl ?_
  intro cdv A outer s H E hr
  exact ⟨_, _, (pss_cons (ps_par3 (i := 2) (j := 3) (l := 4) rfl sc_Flow_items.nd rfl rfl rfl (by decide) (by decide) (by decide) rfl rfl rfl (pa_cons (pe_lst pa_nil) (pa_cons (pe_lst pa_nil) (pa_cons pe_bl pa_nil))) rfl) (pss_cons (ps_for PassesOwn.never rfl (pi_any (pv 1)) (pg_name (i := 5) sc_Flow_items.nd rfl (.inl rfl)) (pss_cons (ps_asg (pe_mth c_Flow_item hr (Nat.le_refl _) passL (pv 0) (pa_cons (pv 5) pa_nil)) (pg_tup rfl (pgs_cons (pg_name (i := 6) sc_Flow_items.nd rfl (.inl rfl)) (pgs_cons (pg_name (i := 7) sc_Flow_items.nd rfl (.inl rfl)) (pgs_cons (pg_name (i := 8) sc_Flow_items.nd rfl (.inl rfl)) pgs_nil))))) (pss_cons (ps_expr (pe_mth c_Flow_linked hr (Nat.le_trans (by decide) hj) passL (pv 0) (pa_cons (pv 3) (pa_cons (pv 6) pa_nil)))) (pss_cons (ps_set (i := 2) sc_Flow_items.nd rfl (.inl rfl) (pe_ifExp (pt_val (pv 4)) (pe_op op_addU (pv 2) (pv 6)) (pv 2))) (pss_cons (ps_set (i := 3) sc_Flow_items.nd rfl (.inl rfl) (pe_ifExp (pt_val (pv 8)) (pe_op op_addU (pv 3) (pv 7)) (pv 7))) (pss_one (ps_set (i := 4) sc_Flow_items.nd rfl (.inl rfl) (pe_and (pv 4) (pe_one (pv 8)))))))))) (pss_one (ps_ret (pe_tup (pa_cons (pv 2) (pa_cons (pv 3) (pa_cons (pv 4) pa_nil)))))))), (tsm_seq (tsm_par3 (tam_val (tem_lift (tev_n (ten_lst tav_nil))) (tam_val (tem_lift (tev_n (ten_lst tav_nil))) (tam_val (tem_lift (tev_c fun _ => .bl _)) tam_nil)))) (tsm_seq (tsm_for (tim_lift (tif_any (tev_var (i := 1)))) tgq_name (tsm_seq (tsm_asg (tgq_tup (tgsq_cons tgq_name (tgsq_cons tgq_name (tgsq_cons tgq_name tgsq_nil)))) (tem_frz (tem_meth rfl (tam_val (tem_lift (tev_var (i := 5))) tam_nil)))) (tsm_seq (tsm_drop (tem_meth rfl (tam_val (tem_lift (tev_var (i := 3))) (tam_val (tem_lift (tev_var (i := 6))) tam_nil)))) (tsm_seq (tsm_set (tem_lift (tev_if (ttv_B (tev_var (i := 4))) (tev_op (tev_var (i := 2)) (tev_var (i := 6)) ov_add) (tev_var (i := 2))))) (tsm_seq (tsm_set (tem_lift (tev_if (ttv_B (tev_var (i := 8))) (tev_op (tev_var (i := 3)) (tev_var (i := 7)) ov_add) (tev_var (i := 7))))) (tsm_set (tem_lift (tev_andV (tev_var (i := 4)) (tev_var (i := 8)))))))))) (tsm_ret (tem_lift (tev_tup (tav_cons (tev_var (i := 2)) (tav_cons (tev_var (i := 3)) (tav_cons (tev_var (i := 4)) tav_nil)))))))), by decide⟩
theorem bad_Flow_items {j : Nat} {g : List O → FR} (hb : g = fun _ => .bad) {f : Addr} {fd : FuncData} (Fc : Fct K cl mg) (F : FunD K "items" "Flow.items" (defArgs s_Flow_items) (defBody s_Flow_items) (defScope s_Flow_items) [] [] f fd) (hm : Meth K (cl 1) "items" f) : MethG P w K mg base j (cl 1) "items" (spM ⟨K, cl⟩ 2 g) := MethG.bad (ps := ["self", "items"]) hb Fc.c_Flow hm (F.bindsN fun _ _ _ _ _ _ us hl => match us, hl with | [_, _], _ => rfl)
noncomputable def grp_Flow_item : Nat → Nat → List O → FR
  | 0, _ => fun _ => .bad
  | n + 1, 0 => defN 5 [true, false] (m_Flow_item (grp_Flow_item n 0) (grp_Flow_item n 1))
  | n + 1, _ => defN 7 [true, false] (m_Flow_items (grp_Flow_item n 0) (grp_Flow_item n 1))
noncomputable def f_Flow_item : List O → FR := grp_Flow_item 45 0
noncomputable def f_Flow_items : List O → FR := grp_Flow_item 45 1
theorem all_Flow_item (Fc : Fct K cl mg) {a_Flow_item : Addr} {fd_Flow_item : FuncData} (F_Flow_item : FunD K "item" "Flow.item" (defArgs s_Flow_item) (defBody s_Flow_item) (defScope s_Flow_item) [] [] a_Flow_item fd_Flow_item) (g_Flow_item : Meth K (cl 1) "item" a_Flow_item) {a_Flow_items : Addr} {fd_Flow_items : FuncData} (F_Flow_items : FunD K "items" "Flow.items" (defArgs s_Flow_items) (defBody s_Flow_items) (defScope s_Flow_items) [] [] a_Flow_items fd_Flow_items) (g_Flow_items : Meth K (cl 1) "items" a_Flow_items) (c_Flow_linked : MethG P w K mg base 1 (cl 1) "linked" (spM ⟨K, cl⟩ 3 f_Flow_linked)) : ∀ n : Nat, MethG P w K mg base (1 + n) (cl 1) "item" (spM ⟨K, cl⟩ 2 (grp_Flow_item n 0)) ∧ MethG P w K mg base (1 + n) (cl 1) "items" (spM ⟨K, cl⟩ 2 (grp_Flow_item n 1))
  | 0 => ⟨bad_Flow_item rfl Fc F_Flow_item g_Flow_item, bad_Flow_items rfl Fc F_Flow_items g_Flow_items⟩
  | n + 1 => by
    have ih := all_Flow_item Fc F_Flow_item g_Flow_item F_Flow_items g_Flow_items c_Flow_linked n
    exact ⟨ok_Flow_item (Nat.le_add_right _ _) Fc F_Flow_item g_Flow_item c_Flow_linked ih.1 ih.2, ok_Flow_items (Nat.le_add_right _ _) Fc F_Flow_items g_Flow_items c_Flow_linked ih.1 ih.2⟩
abbrev s_next_rows : Stmt := topS 13
theorem sc_next_rows : FnScope ["program", "flow", "some"] ["program"] (defScope s_next_rows) := ⟨rfl, rfl, rfl, by decide +kernel, rfl, by decide +kernel, by decide +kernel⟩
noncomputable def m_next_rows : MS := (sSeq (sSet 1 (mMake 1 f_Flow___init__ mNil)) (sSeq (sDrop (mMeth 1 1 "items" f_Flow_items [none] (mCons (mLift (qOp oIx (qVar 0) (qC (.int 1)))) mNil))) (sGzI 1 (sRet (mNew (qLc (qItA (qFld 1 1 "nexts")) (fName 2) qYes (qFz (qCb oSortV (qCons (qVar 2) qNil))) [2]))))))
noncomputable def f_next_rows : List O → FR := defN 2 [false] m_next_rows
theorem ok_next_rows {f : Addr} {fd : FuncData} (Fc : Fct K cl mg) (F : FunD K "next_rows" "next_rows" (defArgs s_next_rows) (defBody s_next_rows) (defScope s_next_rows) [] [] f fd) (g : mg "next_rows" = some (.ref f)) (c_Flow___init__ : MakG P w K mg base 1 "Flow" (cl 1) (spM ⟨K, cl⟩ 1 f_Flow___init__)) (c_Flow_items : MethG P w K mg base 46 (cl 1) "items" (spM ⟨K, cl⟩ 2 f_Flow_items)) : CalG P w K mg base 47 "next_rows" (spM ⟨K, cl⟩ 1 f_next_rows) := by
  refine ⟨f, fd, ["program"], ?_, g, F.kp, F.bindsN fun _ _ _ _ _ _ us hl => match us, hl with | [_], _ => rfl⟩
  refine def_okN (io := [false]) (more := 2) (m := m_next_rows) F sc_next_rows rfl rfl ?_
  intro cdv A outer s H E hr
  exact ⟨_, _, (pss_cons (ps_set (i := 1) sc_next_rows.nd rfl (.inl rfl) (pe_new0 c_Flow___init__ hr (by decide) passL rfl)) (pss_cons (ps_expr (pe_mth c_Flow_items hr (by decide) passL (pv 1) (pa_cons (pe_ix (ix_U hr.u1) (pv 0) pe_int (fun _ _ => rfl)) pa_nil))) (pss_one (ps_ret (pe_lc (own := [("some", 2)]) rfl sc_next_rows.nd (pi_any (pe_fld (pv 1) rfl)) (blkOk_by (N := ["program", "flow", "some"]) (sc := defScope s_next_rows) (own := [("some", 2)]) (by decide +kernel)) (fun _ _ _ _ _ => (pg_name (i := 2) sc_next_rows.nd rfl (.inl rfl))) (fun _ _ _ _ _ => pts_nil) (fun _ _ _ _ _ => (pe_callB (cr_sortedV rfl hr.u64) rfl Fc.f_sorted (by rfl) (pa_cons (pv 2) pa_nil)))))))), (tsm_seq (tsm_set (tem_make rfl tam_nil nil_len)) (tsm_seq (tsm_drop (tem_meth rfl (tam_val (tem_lift (tev_op (tev_var (i := 0)) (tev_c fun _ => .int _) ov_ix)) tam_nil))) (tsm_gzI (i := 1) (tsm_ret (tem_new (ten_lc (tiv_any (tev_fld Fc.c_Flow Fc.n_Flow_nexts)) tgq_name (by decide) ttv_yes (tev_n (ten_cb (tav_cons (tev_var (i := 2)) tav_nil) cn_sortV)))))))), by decide⟩
abbrev s_alive_behind : Stmt := topS 17
theorem sc_alive_behind : FnScope ["program", "walk", "found", "some", "given"] ["program"] (defScope s_alive_behind) := ⟨rfl, rfl, rfl, by decide +kernel, rfl, by decide +kernel, by decide +kernel⟩
noncomputable def m_alive_behind : MS := (sSeq (sSet 1 (frzIM (mCall f_walked [none] (mCons (mLift (qVar 0)) mNil)))) (sSeq (sSet 2 (mLift (qCall (qOf f_read_ahead) (qCons (qFld 0 1 "rows") (qCons (qCall (qOf f_next_rows) (qCons (qVar 0) qNil)) qNil))))) (sRet (mNew (qLc (qZipV (qCons (qVar 2) (qCons (qFld 0 1 "held_out") qNil))) (fTup 2 (fCons (fName 3) (fCons (fName 4) fNil))) qYes (qFz (qSortSet (qOp oAdd (qVar 3) (qVar 4)))) [3, 4])))))
noncomputable def f_alive_behind : List O → FR := defN 4 [false] m_alive_behind
theorem ok_alive_behind {f : Addr} {fd : FuncData} (Fc : Fct K cl mg) (F : FunD K "alive_behind" "alive_behind" (defArgs s_alive_behind) (defBody s_alive_behind) (defScope s_alive_behind) [] [] f fd) (g : mg "alive_behind" = some (.ref f)) (c_walked : CalG P w K mg base 48 "walked" (spM ⟨K, cl⟩ 1 f_walked)) (c_read_ahead : CalG P w K mg base 3 "read_ahead" (spM ⟨K, cl⟩ 2 f_read_ahead)) (c_next_rows : CalG P w K mg base 47 "next_rows" (spM ⟨K, cl⟩ 1 f_next_rows)) : CalG P w K mg base 49 "alive_behind" (spM ⟨K, cl⟩ 1 f_alive_behind) := by
  refine ⟨f, fd, ["program"], ?_, g, F.kp, F.bindsN fun _ _ _ _ _ _ us hl => match us, hl with | [_], _ => rfl⟩
  refine def_okN (io := [false]) (more := 4) (m := m_alive_behind) F sc_alive_behind rfl rfl ?_
  intro cdv A outer s H E hr
  exact ⟨_, _, (pss_cons (ps_set (i := 1) sc_alive_behind.nd rfl (.inl rfl) (pe_g c_walked hr (by decide) passL rfl (pa_cons (pv 0) pa_nil))) (pss_cons (ps_set (i := 2) sc_alive_behind.nd rfl (.inl rfl) (pe_g c_read_ahead.quiet hr (by decide) passL rfl (pa_cons (pe_fld (pv 1) rfl) (pa_cons (pe_g c_next_rows.quiet hr (by decide) passL rfl (pa_cons (pv 0) pa_nil)) pa_nil)))) (pss_one (ps_ret (pe_lc (own := [("some", 3), ("given", 4)]) rfl sc_alive_behind.nd (pi_zipM rfl Fc.f_zip (pa_cons (pv 2) (pa_cons (pe_fld (pv 1) rfl) pa_nil))) (blkOk_by (N := ["program", "walk", "found", "some", "given"]) (sc := defScope s_alive_behind) (own := [("some", 3), ("given", 4)]) (by decide +kernel)) (fun _ _ _ _ _ => (pg_tup rfl (pgs_cons (pg_name (i := 3) sc_alive_behind.nd rfl (.inl rfl)) (pgs_cons (pg_name (i := 4) sc_alive_behind.nd rfl (.inl rfl)) pgs_nil)))) (fun _ _ _ _ _ => pts_nil) (fun _ _ _ _ _ => (pe_callB (cr_sortedSet rfl) rfl Fc.f_sorted (by rfl) (pa_cons (pe_callTy (cr_setI rfl) rfl Fc.f_set (by rfl) (pa_cons (pe_op op_addU (pv 3) (pv 4)) pa_nil)) pa_nil)))))))), (tsm_seq (tsm_set (tem_frzI (tem_call rfl (tam_val (tem_lift (tev_var (i := 0))) tam_nil)))) (tsm_seq (tsm_set (tem_lift (tev_call (qlen_cons (qlen_cons qlen_nil)) (tav_cons (tev_fld Fc.c_Walk Fc.n_Walk_rows) (tav_cons (tev_call (qlen_cons qlen_nil) (tav_cons (tev_var (i := 0)) tav_nil)) tav_nil))))) (tsm_ret (tem_new (ten_lc (tiv_zip (tav_cons (tev_var (i := 2)) (tav_cons (tev_fld Fc.c_Walk Fc.n_Walk_held_out) tav_nil))) (tgq_tup (tgsq_cons tgq_name (tgsq_cons tgq_name tgsq_nil))) (by decide) ttv_yes (tev_n (ten_sortSet (tev_op (tev_var (i := 3)) (tev_var (i := 4)) ov_add)))))))), by decide⟩
abbrev s_busy_behind : Stmt := topS 18
theorem sc_busy_behind : FnScope ["program", "found", "row", "alive", "write"] ["program"] (defScope s_busy_behind) := ⟨rfl, rfl, rfl, by decide +kernel, rfl, by decide +kernel, by decide +kernel⟩
noncomputable def m_busy_behind : MS := (sSeq (sSet 1 (mNew (qLst qNil))) (sSeq (sFor (iLift (qZipF (qCons (qCallF 0 f_walked "rows" (qCons (qVar 0) qNil)) (qCons (qCall (qOf f_alive_behind) (qCons (qVar 0) qNil)) qNil)))) (fTup 2 (fCons (fName 2) (fCons (fName 3) fNil))) (sSeq (sSet 4 (mLift (qCall (qOf f_write_of) (qCons (qVar 2) qNil)))) (sDrop (mMt 1 fAppend (mCons (mLift (qIf (qB (qOp oIsN (qVar 4) (qC (.none)))) (qVar 3) (qFz (qCb oSortV (qCons (qCall (qOf f_with_one) (qCons (qVar 3) (qCons (qVar 4) qNil))) qNil))))) mNil))))) (sRet (mMove 1))))
noncomputable def f_busy_behind : List O → FR := defN 4 [false] m_busy_behind
theorem ok_busy_behind {f : Addr} {fd : FuncData} (Fc : Fct K cl mg) (F : FunD K "busy_behind" "busy_behind" (defArgs s_busy_behind) (defBody s_busy_behind) (defScope s_busy_behind) [] [] f fd) (g : mg "busy_behind" = some (.ref f)) (c_alive_behind : CalG P w K mg base 49 "alive_behind" (spM ⟨K, cl⟩ 1 f_alive_behind)) (c_write_of : CalG P w K mg base 1 "write_of" (spM ⟨K, cl⟩ 1 f_write_of)) (c_walked : CalG P w K mg base 48 "walked" (spM ⟨K, cl⟩ 1 f_walked)) (c_with_one : CalG P w K mg base 1 "with_one" (spM ⟨K, cl⟩ 2 f_with_one)) : CalG P w K mg base 50 "busy_behind" (spM ⟨K, cl⟩ 1 f_busy_behind) := by
  refine ⟨f, fd, ["program"], ?_, g, F.kp, F.bindsN fun _ _ _ _ _ _ us hl => match us, hl with | [_], _ => rfl⟩
  refine def_okN (io := [false]) (more := 4) (m := m_busy_behind) F sc_busy_behind rfl rfl ?_
  intro cdv A outer s H E hr
  exact ⟨_, _, (pss_cons (ps_set (i := 1) sc_busy_behind.nd rfl (.inl rfl) (pe_lst pa_nil)) (pss_cons (ps_for PassesOwn.never rfl (pi_zipM rfl Fc.f_zip (pa_cons (pe_fld (pe_g c_walked hr (by decide) passL rfl (pa_cons (pv 0) pa_nil)) rfl) (pa_cons (pe_g c_alive_behind.quiet hr (by decide) passL rfl (pa_cons (pv 0) pa_nil)) pa_nil))) (pg_tup rfl (pgs_cons (pg_name (i := 2) sc_busy_behind.nd rfl (.inl rfl)) (pgs_cons (pg_name (i := 3) sc_busy_behind.nd rfl (.inl rfl)) pgs_nil))) (pss_cons (ps_set (i := 4) sc_busy_behind.nd rfl (.inl rfl) (pe_g c_write_of.quiet hr (by decide) passL rfl (pa_cons (pv 2) pa_nil))) (pss_one (ps_expr (pe_bm PySem.F.plainAttrs_list PySem.F.slot_list_append PySem.F.type_list_append mt_append (pv 1) (pa_cons (pe_ifExp (pt_cmpR op_isN (pv 4) pe_non (nomark _)) (pv 3) (pe_callB (cr_sortedV rfl hr.u64) rfl Fc.f_sorted (by rfl) (pa_cons (pe_g c_with_one.quiet hr (by decide) passL rfl (pa_cons (pv 3) (pa_cons (pv 4) pa_nil))) pa_nil))) pa_nil)))))) (pss_one (ps_ret (pv 1))))), (tsm_seq (tsm_set (tem_new (ten_lst tav_nil))) (tsm_seq (tsm_for (tim_lift (tif_zipM (tav_cons (tev_callF Fc.c_Walk Fc.n_Walk_rows (qlen_cons qlen_nil) (tav_cons (tev_var (i := 0)) tav_nil)) (tav_cons (tev_call (qlen_cons qlen_nil) (tav_cons (tev_var (i := 0)) tav_nil)) tav_nil)))) (tgq_tup (tgsq_cons tgq_name (tgsq_cons tgq_name tgsq_nil))) (tsm_seq (tsm_set (tem_lift (tev_call (qlen_cons qlen_nil) (tav_cons (tev_var (i := 2)) tav_nil)))) (tsm_drop (tem_mt (tam_val (tem_lift (tev_if (ttv_test (tev_op (tev_var (i := 4)) (tev_c fun _ => .non) ov_isN)) (tev_var (i := 3)) (tev_n (ten_cb (tav_cons (tev_call (qlen_cons (qlen_cons qlen_nil)) (tav_cons (tev_var (i := 3)) (tav_cons (tev_var (i := 4)) tav_nil))) tav_nil) cn_sortV)))) tam_nil) lm_append)))) (tsm_ret tem_move))), by decide⟩
abbrev s_clashes : Stmt := topS 19
theorem sc_clashes : FnScope ["program", "found", "busy", "place", "thing", "other"] ["program"] (defScope s_clashes) := ⟨rfl, rfl, rfl, by decide +kernel, rfl, by decide +kernel, by decide +kernel⟩
noncomputable def m_clashes : MS := (sSeq (sSet 1 (mNew qDt0)) (sSeq (sFor (iLift (qIfA (qCall (qOf f_busy_behind) (qCons (qVar 0) qNil)))) (fName 2) (sFor (iLift (qEnum (qCons (qVar 2) qNil))) (fTup 2 (fCons (fName 3) (fCons (fName 4) fNil))) (sFor (iLift (qIfA (qSl (qVar 2) (qPart (qOp oAdd (qVar 3) (qC (.int 1)))) qNo))) (fName 5) (sSetT 1 (qTup (qCons (qVar 4) (qCons (qVar 5) qNil))) (mLift (qC (.bool true))))))) (sRet (mNew (qCb oSortT (qCons (qVar 1) qNil))))))
noncomputable def f_clashes : List O → FR := defN 5 [false] m_clashes
theorem ok_clashes {f : Addr} {fd : FuncData} (Fc : Fct K cl mg) (F : FunD K "clashes" "clashes" (defArgs s_clashes) (defBody s_clashes) (defScope s_clashes) [] [] f fd) (g : mg "clashes" = some (.ref f)) (c_busy_behind : CalG P w K mg base 50 "busy_behind" (spM ⟨K, cl⟩ 1 f_busy_behind)) : CalG P w K mg base 51 "clashes" (spM ⟨K, cl⟩ 1 f_clashes) := by
  refine ⟨f, fd, ["program"], ?_, g, F.kp, F.bindsN fun _ _ _ _ _ _ us hl => match us, hl with | [_], _ => rfl⟩
  refine def_okN (io := [false]) (more := 5) (m := m_clashes) F sc_clashes rfl rfl ?_
  intro cdv A outer s H E hr
  exact ⟨_, _, (pss_cons (ps_set (i := 1) sc_clashes.nd rfl (.inl rfl) pe_dnewT) (pss_cons (ps_for PassesOwn.never rfl (pi_any (pe_g c_busy_behind.quiet hr (by decide) passL rfl (pa_cons (pv 0) pa_nil))) (pg_name (i := 2) sc_clashes.nd rfl (.inl rfl)) (pss_one (ps_for PassesOwn.never rfl (pi_enum rfl Fc.f_enumerate (pa_cons (pv 2) pa_nil)) (pg_tup rfl (pgs_cons (pg_name (i := 3) sc_clashes.nd rfl (.inl rfl)) (pgs_cons (pg_name (i := 4) sc_clashes.nd rfl (.inl rfl)) pgs_nil))) (pss_one (ps_for PassesOwn.never rfl (pi_any (pe_slice sl_U (pv 2) (po_some (pe_op op_addU (pv 3) pe_int)) po_none)) (pg_name (i := 5) sc_clashes.nd rfl (.inl rfl)) (pss_one (ps_asg pe_bl (pg_sub (pv 1) (pe_tup (pa_cons (pv 4) (pa_cons (pv 5) pa_nil))) (set_U hr.u1))))))))) (pss_one (ps_ret (pe_callB (cr_sortDT rfl hr.u64) rfl Fc.f_sorted (by rfl) (pa_cons (pv 1) pa_nil)))))), (tsm_seq (tsm_set (tem_new ten_dt0)) (tsm_seq (tsm_for (tim_lift (tif_any (tev_call (qlen_cons qlen_nil) (tav_cons (tev_var (i := 0)) tav_nil)))) tgq_name (tsm_for (tim_lift (tif_enum (tav_cons (tev_var (i := 2)) tav_nil))) (tgq_tup (tgsq_cons tgq_name (tgsq_cons tgq_name tgsq_nil))) (tsm_for (tim_lift (tif_any (tev_sl (tev_var (i := 2)) (tov_part (tev_op (tev_var (i := 3)) (tev_c fun _ => .int _) ov_add)) tov_no))) tgq_name (tsm_setT (tem_lift (tev_c fun _ => .bl _)) (tev_tup (tav_cons (tev_var (i := 4)) (tav_cons (tev_var (i := 5)) tav_nil))))))) (tsm_ret (tem_new (ten_cb (tav_cons (tev_var (i := 1)) tav_nil) cn_sortT))))), by decide⟩
abbrev s__law_same : Stmt := topS 28
theorem sc__law_same : FnScope ["_law_found", "_law_due", "_law_one", "_law_other"] ["_law_found", "_law_due"] (defScope s__law_same) := ⟨rfl, rfl, rfl, by decide +kernel, rfl, by decide +kernel, by decide +kernel⟩
noncomputable def m__law_same (r__law_same : List O → FR) : MS := (sSeq (sIf (bLift (qB (qOp oIsN (qVar 1) (qC (.none))))) (sRet (mLift (qOp oIsN (qVar 0) (qC (.none))))) sNext) (sSeq (sIf (bLift (qB (qIsi "bool" (qVar 1)))) (sRet (mLift (qAndV (qIsi "bool" (qVar 0)) (qOp oEq (qVar 0) (qVar 1))))) sNext) (sSeq (sIf (bLift (qB (qIsi2 "list" "tuple" (qVar 1)))) (sSeq (sIf (bLift (qOr (qB (qOp oNe (qIsi "list" (qVar 0)) (qIsi "list" (qVar 1)))) (qB (qOp oNe (qIsi "tuple" (qVar 0)) (qIsi "tuple" (qVar 1)))))) (sRet (mLift (qC (.bool false)))) sNext) (sRet (mLift (qAndV (qOp oEq (qCb oLen (qCons (qVar 0) qNil)) (qCb oLen (qCons (qVar 1) qNil))) (qCb oAll (qCons (qFz (qLc (qZipV (qCons (qVar 0) (qCons (qVar 1) qNil))) (fTup 2 (fCons (fName 2) (fCons (fName 3) fNil))) qYes (qCall (qOf r__law_same) (qCons (qVar 2) (qCons (qVar 3) qNil))) [2, 3])) qNil)))))) sNext) (sSeq (sIf (bLift (qB (qIsi "str" (qVar 1)))) (sRet (mLift (qAndV (qIsi "str" (qVar 0)) (qOp oEq (qVar 0) (qVar 1))))) sNext) (sRet (mLift (qAndV (qIsi "int" (qVar 0)) (qAndV (qNotV (qIsi "bool" (qVar 0))) (qOp oEq (qVar 0) (qVar 1))))))))))
theorem ok__law_same {j : Nat} (hj : 0 ≤ j) {r__law_same : List O → FR} {f : Addr} {fd : FuncData} (Fc : Fct K cl mg) (F : FunD K "_law_same" "_law_same" (defArgs s__law_same) (defBody s__law_same) (defScope s__law_same) [] [] f fd) (g : mg "_law_same" = some (.ref f)) (c__law_same : CalG P w K mg base j "_law_same" (spM ⟨K, cl⟩ 2 r__law_same)) : CalG P w K mg base (j + 1) "_law_same" (spM ⟨K, cl⟩ 2 (defN 2 [false, false] (m__law_same r__law_same))) := by
  refine ⟨f, fd, ["_law_found", "_law_due"], ?_, g, F.kp, F.bindsN fun _ _ _ _ _ _ us hl => match us, hl with | [_, _], _ => rfl⟩
  refine def_okN (io := [false, false]) (more := 2) (m := (m__law_same r__law_same)) F sc__law_same rfl rfl ?_
  intro cdv A outer s H E hr
  exact ⟨_, _, (pss_cons (ps_if (pt_cmpR op_isN (pv 1) pe_non (nomark _)) (pss_one (ps_ret (pe_cmpR op_isN (pv 0) pe_non (nomark _)))) pss_nil) (pss_cons (ps_if (pt_val (pe_callB call_isi1 rfl Fc.f_isinstance (by rfl) (pa_cons (pv 1) (pa_cons (pe_bltn (v := .ty "bool") (u := .type "bool") rfl Fc.f_bool (by rfl) rfl) pa_nil)))) (pss_one (ps_ret (pe_and (pe_callB call_isi1 rfl Fc.f_isinstance (by rfl) (pa_cons (pv 0) (pa_cons (pe_bltn (v := .ty "bool") (u := .type "bool") rfl Fc.f_bool (by rfl) rfl) pa_nil))) (pe_one (pe_cmpR (op_eqU hr.u64) (pv 0) (pv 1) (nomark _)))))) pss_nil) (pss_cons (ps_if (pt_val (pe_callB call_isi2 rfl Fc.f_isinstance (by rfl) (pa_cons (pv 1) (pa_cons (pe_tup (pa_cons (pe_bltn (v := .ty "list") (u := .type "list") rfl Fc.f_list (by rfl) rfl) (pa_cons (pe_bltn (v := .ty "tuple") (u := .type "tuple") rfl Fc.f_tuple (by rfl) rfl) pa_nil))) pa_nil)))) (pss_cons (ps_if (PW.pt (pw_or (pt_cmpR (op_neU hr.u64) (pe_callB call_isi1 rfl Fc.f_isinstance (by rfl) (pa_cons (pv 0) (pa_cons (pe_bltn (v := .ty "list") (u := .type "list") rfl Fc.f_list (by rfl) rfl) pa_nil))) (pe_callB call_isi1 rfl Fc.f_isinstance (by rfl) (pa_cons (pv 1) (pa_cons (pe_bltn (v := .ty "list") (u := .type "list") rfl Fc.f_list (by rfl) rfl) pa_nil))) (nomark _)) (pw_or1 (pt_cmpR (op_neU hr.u64) (pe_callB call_isi1 rfl Fc.f_isinstance (by rfl) (pa_cons (pv 0) (pa_cons (pe_bltn (v := .ty "tuple") (u := .type "tuple") rfl Fc.f_tuple (by rfl) rfl) pa_nil))) (pe_callB call_isi1 rfl Fc.f_isinstance (by rfl) (pa_cons (pv 1) (pa_cons (pe_bltn (v := .ty "tuple") (u := .type "tuple") rfl Fc.f_tuple (by rfl) rfl) pa_nil))) (nomark _))))) (pss_one (ps_ret pe_bl)) pss_nil) (pss_one (ps_ret (pe_and (pe_cmpR (op_eqU hr.u64) (pe_callB call_lenU rfl Fc.f_len (by rfl) (pa_cons (pv 0) pa_nil)) (pe_callB call_lenU rfl Fc.f_len (by rfl) (pa_cons (pv 1) pa_nil)) (nomark _)) (pe_one (pe_callB (cr_all rfl) rfl Fc.f_all (by rfl) (pa_cons (pe_lc (own := [("_law_one", 2), ("_law_other", 3)]) rfl sc__law_same.nd (pi_zipM rfl Fc.f_zip (pa_cons (pv 0) (pa_cons (pv 1) pa_nil))) (blkOk_by (N := ["_law_found", "_law_due", "_law_one", "_law_other"]) (sc := defScope s__law_same) (own := [("_law_one", 2), ("_law_other", 3)]) (by decide +kernel)) (fun _ _ _ _ _ => (pg_tup rfl (pgs_cons (pg_name (i := 2) sc__law_same.nd rfl (.inl rfl)) (pgs_cons (pg_name (i := 3) sc__law_same.nd rfl (.inl rfl)) pgs_nil)))) (fun _ _ _ _ _ => pts_nil) (fun _ _ _ _ _ => (pe_g c__law_same.quiet hr (Nat.le_refl _) passL rfl (pa_cons (pv 2) (pa_cons (pv 3) pa_nil))))) pa_nil))))))) pss_nil) (pss_cons (ps_if (pt_val (pe_callB call_isi1 rfl Fc.f_isinstance (by rfl) (pa_cons (pv 1) (pa_cons (pe_bltn (v := .ty "str") (u := .type "str") rfl Fc.f_str (by rfl) rfl) pa_nil)))) (pss_one (ps_ret (pe_and (pe_callB call_isi1 rfl Fc.f_isinstance (by rfl) (pa_cons (pv 0) (pa_cons (pe_bltn (v := .ty "str") (u := .type "str") rfl Fc.f_str (by rfl) rfl) pa_nil))) (pe_one (pe_cmpR (op_eqU hr.u64) (pv 0) (pv 1) (nomark _)))))) pss_nil) (pss_one (ps_ret (pe_and (pe_callB call_isi1 rfl Fc.f_isinstance (by rfl) (pa_cons (pv 0) (pa_cons (pe_bltn (v := .ty "int") (u := .type "int") rfl Fc.f_int (by rfl) rfl) pa_nil))) (pe_and (pe_not (pe_callB call_isi1 rfl Fc.f_isinstance (by rfl) (pa_cons (pv 0) (pa_cons (pe_bltn (v := .ty "bool") (u := .type "bool") rfl Fc.f_bool (by rfl) rfl) pa_nil)))) (pe_one (pe_cmpR (op_eqU hr.u64) (pv 0) (pv 1) (nomark _))))))))))), (tsm_seq (tsm_if (ttm_lift (ttv_test (tev_op (tev_var (i := 1)) (tev_c fun _ => .non) ov_isN))) (tsm_ret (tem_lift (tev_op (tev_var (i := 0)) (tev_c fun _ => .non) ov_isN))) tsm_next) (tsm_seq (tsm_if (ttm_lift (ttv_B (tev_isi (tev_var (i := 1))))) (tsm_ret (tem_lift (tev_andV (tev_isi (tev_var (i := 0))) (tev_op (tev_var (i := 0)) (tev_var (i := 1)) ov_eq)))) tsm_next) (tsm_seq (tsm_if (ttm_lift (ttv_B (tev_isi2 (tev_var (i := 1))))) (tsm_seq (tsm_if (ttm_lift (ttv_or (ttv_test (tev_op (tev_isi (tev_var (i := 0))) (tev_isi (tev_var (i := 1))) ov_ne)) (ttv_test (tev_op (tev_isi (tev_var (i := 0))) (tev_isi (tev_var (i := 1))) ov_ne)))) (tsm_ret (tem_lift (tev_c fun _ => .bl _))) tsm_next) (tsm_ret (tem_lift (tev_andV (tev_op (tev_cb (tav_cons (tev_var (i := 0)) tav_nil) cb_len) (tev_cb (tav_cons (tev_var (i := 1)) tav_nil) cb_len) ov_eq) (tev_cb (tav_cons (tev_n (ten_lc (tiv_zip (tav_cons (tev_var (i := 0)) (tav_cons (tev_var (i := 1)) tav_nil))) (tgq_tup (tgsq_cons tgq_name (tgsq_cons tgq_name tgsq_nil))) (by decide) ttv_yes (tev_call (qlen_cons (qlen_cons qlen_nil)) (tav_cons (tev_var (i := 2)) (tav_cons (tev_var (i := 3)) tav_nil))))) tav_nil) cb_all))))) tsm_next) (tsm_seq (tsm_if (ttm_lift (ttv_B (tev_isi (tev_var (i := 1))))) (tsm_ret (tem_lift (tev_andV (tev_isi (tev_var (i := 0))) (tev_op (tev_var (i := 0)) (tev_var (i := 1)) ov_eq)))) tsm_next) (tsm_ret (tem_lift (tev_andV (tev_isi (tev_var (i := 0))) (tev_andV (tev_notV (tev_isi (tev_var (i := 0)))) (tev_op (tev_var (i := 0)) (tev_var (i := 1)) ov_eq))))))))), by decide⟩
theorem bad__law_same {j : Nat} {g : List O → FR} (hb : g = fun _ => .bad) {f : Addr} {fd : FuncData} (Fc : Fct K cl mg) (F : FunD K "_law_same" "_law_same" (defArgs s__law_same) (defBody s__law_same) (defScope s__law_same) [] [] f fd) (hm : mg "_law_same" = some (.ref f)) : CalG P w K mg base j "_law_same" (spM ⟨K, cl⟩ 2 g) := CalG.bad (ps := ["_law_found", "_law_due"]) hb F hm (F.bindsN fun _ _ _ _ _ _ us hl => match us, hl with | [_, _], _ => rfl)
noncomputable def grp__law_same : Nat → Nat → List O → FR
  | 0, _ => fun _ => .bad
  | n + 1, _ => defN 2 [false, false] (m__law_same (grp__law_same n 0))
noncomputable def f__law_same : List O → FR := grp__law_same 45 0
theorem all__law_same (Fc : Fct K cl mg) {a__law_same : Addr} {fd__law_same : FuncData} (F__law_same : FunD K "_law_same" "_law_same" (defArgs s__law_same) (defBody s__law_same) (defScope s__law_same) [] [] a__law_same fd__law_same) (g__law_same : mg "_law_same" = some (.ref a__law_same)) : ∀ n : Nat, CalG P w K mg base (0 + n) "_law_same" (spM ⟨K, cl⟩ 2 (grp__law_same n 0))
  | 0 => bad__law_same rfl Fc F__law_same g__law_same
  | n + 1 => by
    have ih := all__law_same Fc F__law_same g__law_same n
    exact ok__law_same (Nat.le_add_right _ _) Fc F__law_same g__law_same ih
abbrev s_law : Stmt := topS 29
theorem sc_law : FnScope ["_law_script", "_law_k", "_law_tape_here", "_law_program_here", "_law_busy", "_law_many", "_law_due", "_law_t", "_law_turn", "_law_found", "_law_u", "_law_some", "_law_one", "_law_other", "_law_every", "_law_single"] ["_law_script"] (defScope s_law) := ⟨rfl, rfl, rfl, by decide +kernel, rfl, by decide +kernel, by decide +kernel⟩
noncomputable def m_law_1 : MS := (sSet 2 (mCall f__law_tape [none, none] (mCons (mLift (qVar 0)) (mCons (mLift (qVar 1)) mNil))))
noncomputable def m_law_2 : MS := (sSet 3 (frzM (mCall f__law_program [some 2] (mRef 2 mNil))))
noncomputable def m_law_3 : MS := (sAsg (fTup 2 (fCons (fName 4) (fCons (fName 5) fNil))) (mLift (qTup (qCons (qCall (qOf f_busy_behind) (qCons (qVar 3) qNil)) (qCons (qCb oLen (qCons (qOp oIx (qVar 3) (qC (.int 0))) qNil)) qNil)))))
noncomputable def m_law_4 : MS := (sSet 6 (mLift (qOp oAdd (qVar 6) (qFz (qLc (qRng2 (qCons (qOp oAdd (qVar 7) (qC (.int 1))) (qCons (qVar 5) qNil))) (fName 10) (qB (qCb oAny (qCons (qFz (qLc (qItA (qVar 4)) (fName 11) qYes (qAndV (qOp oIn (qVar 7) (qVar 11)) (qOp oIn (qVar 10) (qVar 11))) [11])) qNil))) (qTup (qCons (qVar 7) (qCons (qVar 10) qNil))) [10])))))
noncomputable def m_law_5 : MS := (sFor (iLift (qRng1 (qCons (qVar 5) qNil))) (fName 7) m_law_4)
noncomputable def m_law_6 : MS := (sSet 9 (mCall f_clashes [none] (mCons (mLift (qVar 3)) mNil)))
noncomputable def m_law_7 : MS := (sIf (bLift (qNot (qB (qCall (qOf f__law_same) (qCons (qVar 9) (qCons (qVar 6) qNil)))))) (sRet (mLift (qC (.bool false)))) sNext)
noncomputable def m_law_8 : MS := (sDrop (mMt 9 fAppend (mCons (mLift (qTup (qCons (qC (.int 0)) (qCons (qC (.int 0)) qNil)))) mNil)))
noncomputable def m_law_9 : MS := (sFor (iLift (qRng1 (qCons (qC (.int 2)) qNil))) (fName 8) (sSeq m_law_6 (sSeq m_law_7 (sSeq (sDrop (mMt0 9 fRev)) m_law_8))))
noncomputable def m_law_10 : MS := (sFor (iLift (qRng1 (qCons (qCb oMax2 (qCons (qC (.int 1)) (qCons (qCb oMin2 (qCons (qC (.int 4)) (qCons (qCb oLen (qCons (qVar 0) qNil)) qNil))) qNil))) qNil))) (fName 1) (sSeq m_law_1 (sSeq m_law_2 (sSeq m_law_3 (sSeq (sSet 6 (mLift (qFz (qLst qNil)))) (sSeq m_law_5 m_law_9))))))
noncomputable def m_law_11 : MS := (sAsg (fTup 2 (fCons (fName 12) (fCons (fName 13) fNil))) (mLift (qTup (qCons (qTup (qCons (qC (.str "row")) (qCons (qTup qNil) (qCons (qC (.int 0)) qNil)))) (qCons (qTup (qCons (qC (.str "row")) (qCons (qTup qNil) (qCons (qC (.int 1)) qNil)))) qNil)))))
noncomputable def m_law_12 : MS := (sSet 14 (mLift (qOp oAdd (qCb oTuple (qCons (qFz (qLc (qRng1 (qCons (qC (.int 20)) qNil)) (fName 7) qYes (qTup (qCons (qC (.str "row")) (qCons (qTup qNil) (qCons (qVar 7) qNil)))) [7])) qNil)) (qTup (qCons (qTup (qCons (qC (.str "row")) (qCons (qTrg1 (qC (.int 20))) (qCons (qC (.none)) qNil)))) qNil)))))
noncomputable def m_law_13 : MS := (sSet 6 (mLift (qOp oAdd (qVar 6) (qFz (qLc (qRng2 (qCons (qOp oAdd (qVar 7) (qC (.int 1))) (qCons (qC (.int 20)) qNil))) (fName 10) qYes (qTup (qCons (qVar 7) (qCons (qVar 10) qNil))) [10])))))
noncomputable def m_law_14 : MS := (sFor (iLift (qRng1 (qCons (qC (.int 20)) qNil))) (fName 7) m_law_13)
noncomputable def m_law_15 : MS := (sIf (bLift (qB (qOp oNe (qCall (qOf f_clashes) (qCons (qTup (qCons (qOp oMulT (qTup (qCons (qTup (qCons (qC (.int 1)) (qCons (qC (.int 1)) qNil))) qNil)) (qC (.int 20))) (qCons (qVar 14) qNil))) qNil)) (qVar 6)))) (sRet (mLift (qC (.bool false)))) sNext)
noncomputable def m_law_16 : MS := (sSet 15 (mLift (qTup (qCons (qTup (qCons (qTup (qCons (qC (.int 1)) (qCons (qC (.int 1)) qNil))) (qCons (qTup (qCons (qC (.int 1)) (qCons (qC (.int 1)) qNil))) qNil))) (qCons (qTup (qCons (qVar 12) (qCons (qTup (qCons (qC (.str "row")) (qCons (qTup (qCons (qC (.int 0)) qNil)) (qCons (qC (.int 1)) qNil)))) (qCons (qTup (qCons (qC (.str "row")) (qCons (qTup (qCons (qC (.int 1)) qNil)) (qCons (qC (.none)) qNil)))) qNil)))) qNil)))))
noncomputable def m_law_17 : MS := (sRet (mLift (qAndV (qOp oEq (qCall (qOf f_clashes) (qCons (qVar 15) qNil)) (qFz (qLst qNil))) (qOp oEq (qCall (qOf f_clashes) (qCons (qTup (qCons (qOp oIx (qVar 15) (qC (.int 0))) (qCons (qTup (qCons (qVar 12) (qCons (qVar 13) (qCons (qTup (qCons (qC (.str "row")) (qCons (qTup (qCons (qC (.int 0)) (qCons (qC (.int 1)) qNil))) (qCons (qC (.none)) qNil)))) qNil)))) qNil))) qNil)) (qFz (qLst (qCons (qTup (qCons (qC (.int 0)) (qCons (qC (.int 1)) qNil))) qNil)))))))
noncomputable def m_law : MS := (sSeq m_law_10 (sSeq m_law_11 (sSeq m_law_12 (sSeq (sSet 6 (mLift (qFz (qLst qNil)))) (sSeq m_law_14 (sSeq m_law_15 (sSeq m_law_16 m_law_17)))))))
noncomputable def f_law : List O → FR := defN 15 [false] m_law
theorem ok_law {f : Addr} {fd : FuncData} (Fc : Fct K cl mg) (F : FunD K "law" "law" (defArgs s_law) (defBody s_law) (defScope s_law) [] [] f fd) (c__law_tape : CalG P w K mg base 1 "_law_tape" (spM ⟨K, cl⟩ 2 f__law_tape)) (c__law_program : CalG P w K mg base 48 "_law_program" (spM ⟨K, cl⟩ 1 f__law_program)) (c_busy_behind : CalG P w K mg base 50 "busy_behind" (spM ⟨K, cl⟩ 1 f_busy_behind)) (c_clashes : CalG P w K mg base 51 "clashes" (spM ⟨K, cl⟩ 1 f_clashes)) (c__law_same : CalG P w K mg base 45 "_law_same" (spM ⟨K, cl⟩ 2 f__law_same)) : FnG P w K mg base (CXg P w) 52 f fd ["_law_script"] (spM ⟨K, cl⟩ 1 f_law) := by
  refine def_okN (io := [false]) (more := 15) (m := m_law) F sc_law rfl rfl ?_
  intro cdv A outer s H E hr
  exact ⟨_, _, (pss_cons (ps_for PassesOwn.never rfl (pi_range1 rfl Fc.f_range (pa_cons (pe_callB (call_max2 rfl) rfl Fc.f_max (by rfl) (pa_cons pe_int (pa_cons (pe_callB (call_min2 rfl) rfl Fc.f_min (by rfl) (pa_cons pe_int (pa_cons (pe_callB call_lenU rfl Fc.f_len (by rfl) (pa_cons (pv 0) pa_nil)) pa_nil))) pa_nil))) pa_nil)) (pg_name (i := 1) sc_law.nd rfl (.inl rfl)) (pss_cons (ps_set (i := 2) sc_law.nd rfl (.inl rfl) (pe_g c__law_tape hr (by decide) passL rfl (pa_cons (pv 0) (pa_cons (pv 1) pa_nil)))) (pss_cons (ps_set (i := 3) sc_law.nd rfl (.inl rfl) (pe_g c__law_program hr (by decide) passL rfl (pa_cons (pv 2) pa_nil))) (pss_cons (ps_asg (pe_tup (pa_cons (pe_g c_busy_behind.quiet hr (by decide) passL rfl (pa_cons (pv 3) pa_nil)) (pa_cons (pe_callB call_lenU rfl Fc.f_len (by rfl) (pa_cons (pe_ix (ix_U hr.u1) (pv 3) pe_int (fun _ _ => rfl)) pa_nil)) pa_nil))) (pg_tup rfl (pgs_cons (pg_name (i := 4) sc_law.nd rfl (.inr rfl)) (pgs_cons (pg_name (i := 5) sc_law.nd rfl (.inl rfl)) pgs_nil)))) (pss_cons (ps_set (i := 6) sc_law.nd rfl (.inl rfl) (pe_lst pa_nil)) (pss_cons (ps_for PassesOwn.never rfl (pi_range1 rfl Fc.f_range (pa_cons (pv 5) pa_nil)) (pg_name (i := 7) sc_law.nd rfl (.inr rfl)) (pss_one (ps_set (i := 6) sc_law.nd rfl (.inl rfl) (pe_op op_addU (pv 6) (pe_lc (own := [("_law_u", 10)]) rfl sc_law.nd (pi_range2 rfl Fc.f_range (pa_cons (pe_op op_addU (pv 7) pe_int) (pa_cons (pv 5) pa_nil))) (blkOk_by (N := ["_law_script", "_law_k", "_law_tape_here", "_law_program_here", "_law_busy", "_law_many", "_law_due", "_law_t", "_law_turn", "_law_found", "_law_u", "_law_some", "_law_one", "_law_other", "_law_every", "_law_single"]) (sc := defScope s_law) (own := [("_law_u", 10)]) (by decide +kernel)) (fun _ _ _ _ _ => (pg_name (i := 10) sc_law.nd rfl (.inr rfl))) (fun _ _ _ _ _ => pts_one (pt_val (pe_callB (cr_any rfl) rfl Fc.f_any (by rfl) (pa_cons (pe_lc (own := [("_law_some", 11)]) rfl sc_law.nd (pi_any (pv 4)) (blkOk_rel (blkOk_by (N := ["_law_script", "_law_k", "_law_tape_here", "_law_program_here", "_law_busy", "_law_many", "_law_due", "_law_t", "_law_turn", "_law_found", "_law_u", "_law_some", "_law_one", "_law_other", "_law_every", "_law_single"]) (sc := { kind := ScopeKind.function, names := [(Str.ofString ".0", NameKind.local), (Str.ofString "_law_u", NameKind.cell), (Str.ofString "any", NameKind.globalImplicit), (Str.ofString "_law_busy", NameKind.free), (Str.ofString "_law_t", NameKind.free)], isGenerator := false, isCoroutine := false }) (own := [("_law_some", 11)]) (by decide +kernel))) (fun _ _ _ _ _ => (pg_name (i := 11) sc_law.nd rfl (.inl rfl))) (fun _ _ _ _ _ => pts_nil) (fun _ _ _ _ _ => (pe_and (pe_cmpR (op_inU hr.u65) (pv 7) (pv 11) (by with_unfolding_all rfl)) (pe_one (pe_cmpR (op_inU hr.u65) (pv 10) (pv 11) (by with_unfolding_all rfl)))))) pa_nil)))) (fun _ _ _ _ _ => (pe_tup (pa_cons (pv 7) (pa_cons (pv 10) pa_nil))))))))) (pss_one (ps_for PassesOwn.never rfl (pi_range1 rfl Fc.f_range (pa_cons pe_int pa_nil)) (pg_name (i := 8) sc_law.nd rfl (.inl rfl)) (pss_cons (ps_set (i := 9) sc_law.nd rfl (.inl rfl) (pe_g c_clashes hr (by decide) passL rfl (pa_cons (pv 3) pa_nil))) (pss_cons (ps_if (pt_not (pt_val (pe_g c__law_same.quiet hr (by decide) passL rfl (pa_cons (pv 9) (pa_cons (pv 6) pa_nil))))) (pss_one (ps_ret pe_bl)) pss_nil) (pss_cons (ps_expr (pe_bm0 PySem.F.plainAttrs_list PySem.F.slot_list_reverse PySem.F.type_list_reverse mt_reverse (pv 9))) (pss_one (ps_expr (pe_bm PySem.F.plainAttrs_list PySem.F.slot_list_append PySem.F.type_list_append mt_append (pv 9) (pa_cons (pe_tup (pa_cons pe_int (pa_cons pe_int pa_nil))) pa_nil))))))))))))))) (pss_cons (ps_asg (pe_tup (pa_cons (pe_tup (pa_cons pe_str (pa_cons (pe_tup pa_nil) (pa_cons pe_int pa_nil)))) (pa_cons (pe_tup (pa_cons pe_str (pa_cons (pe_tup pa_nil) (pa_cons pe_int pa_nil)))) pa_nil))) (pg_tup rfl (pgs_cons (pg_name (i := 12) sc_law.nd rfl (.inl rfl)) (pgs_cons (pg_name (i := 13) sc_law.nd rfl (.inl rfl)) pgs_nil)))) (pss_cons (ps_set (i := 14) sc_law.nd rfl (.inl rfl) (pe_op op_addU (pe_callTy call_tuple_of rfl Fc.f_tuple (by rfl) (pa_cons (pe_lc (own := [("_law_t", 7)]) rfl sc_law.nd (pi_range1 rfl Fc.f_range (pa_cons pe_int pa_nil)) (blkOk_by (N := ["_law_script", "_law_k", "_law_tape_here", "_law_program_here", "_law_busy", "_law_many", "_law_due", "_law_t", "_law_turn", "_law_found", "_law_u", "_law_some", "_law_one", "_law_other", "_law_every", "_law_single"]) (sc := defScope s_law) (own := [("_law_t", 7)]) (by decide +kernel)) (fun _ _ _ _ _ => (pg_name (i := 7) sc_law.nd rfl (.inl rfl))) (fun _ _ _ _ _ => pts_nil) (fun _ _ _ _ _ => (pe_tup (pa_cons pe_str (pa_cons (pe_tup pa_nil) (pa_cons (pv 7) pa_nil)))))) pa_nil)) (pe_tup (pa_cons (pe_tup (pa_cons pe_str (pa_cons (pe_tupRg rfl rfl Fc.f_tuple (prg_1 rfl Fc.f_range pe_int)) (pa_cons pe_non pa_nil)))) pa_nil)))) (pss_cons (ps_set (i := 6) sc_law.nd rfl (.inl rfl) (pe_lst pa_nil)) (pss_cons (ps_for PassesOwn.never rfl (pi_range1 rfl Fc.f_range (pa_cons pe_int pa_nil)) (pg_name (i := 7) sc_law.nd rfl (.inr rfl)) (pss_one (ps_set (i := 6) sc_law.nd rfl (.inl rfl) (pe_op op_addU (pv 6) (pe_lc (own := [("_law_u", 10)]) rfl sc_law.nd (pi_range2 rfl Fc.f_range (pa_cons (pe_op op_addU (pv 7) pe_int) (pa_cons pe_int pa_nil))) (blkOk_by (N := ["_law_script", "_law_k", "_law_tape_here", "_law_program_here", "_law_busy", "_law_many", "_law_due", "_law_t", "_law_turn", "_law_found", "_law_u", "_law_some", "_law_one", "_law_other", "_law_every", "_law_single"]) (sc := defScope s_law) (own := [("_law_u", 10)]) (by decide +kernel)) (fun _ _ _ _ _ => (pg_name (i := 10) sc_law.nd rfl (.inl rfl))) (fun _ _ _ _ _ => pts_nil) (fun _ _ _ _ _ => (pe_tup (pa_cons (pv 7) (pa_cons (pv 10) pa_nil))))))))) (pss_cons (ps_if (pt_cmpR (op_neU hr.u64) (pe_g c_clashes.quiet hr (by decide) passL rfl (pa_cons (pe_tup (pa_cons (pe_op op_repT (pe_tup (pa_cons (pe_tup (pa_cons pe_int (pa_cons pe_int pa_nil))) pa_nil)) pe_int) (pa_cons (pv 14) pa_nil))) pa_nil)) (pv 6) (nomark _)) (pss_one (ps_ret pe_bl)) pss_nil) (pss_cons (ps_set (i := 15) sc_law.nd rfl (.inl rfl) (pe_tup (pa_cons (pe_tup (pa_cons (pe_tup (pa_cons pe_int (pa_cons pe_int pa_nil))) (pa_cons (pe_tup (pa_cons pe_int (pa_cons pe_int pa_nil))) pa_nil))) (pa_cons (pe_tup (pa_cons (pv 12) (pa_cons (pe_tup (pa_cons pe_str (pa_cons (pe_tup (pa_cons pe_int pa_nil)) (pa_cons pe_int pa_nil)))) (pa_cons (pe_tup (pa_cons pe_str (pa_cons (pe_tup (pa_cons pe_int pa_nil)) (pa_cons pe_non pa_nil)))) pa_nil)))) pa_nil)))) (pss_one (ps_ret (pe_and (pe_cmpR (op_eqU hr.u64) (pe_g c_clashes.quiet hr (by decide) passL rfl (pa_cons (pv 15) pa_nil)) (pe_lst pa_nil) (nomark _)) (pe_one (pe_cmpR (op_eqU hr.u64) (pe_g c_clashes.quiet hr (by decide) passL rfl (pa_cons (pe_tup (pa_cons (pe_ix (ix_U hr.u1) (pv 15) pe_int (fun _ _ => rfl)) (pa_cons (pe_tup (pa_cons (pv 12) (pa_cons (pv 13) (pa_cons (pe_tup (pa_cons pe_str (pa_cons (pe_tup (pa_cons pe_int (pa_cons pe_int pa_nil))) (pa_cons pe_non pa_nil)))) pa_nil)))) pa_nil))) pa_nil)) (pe_lst (pa_cons (pe_tup (pa_cons pe_int (pa_cons pe_int pa_nil))) pa_nil)) (nomark _))))))))))))), (tsm_seq (tsm_for (tim_lift (tif_rng1 (tav_cons (tev_cb (tav_cons (tev_c fun _ => .int _) (tav_cons (tev_cb (tav_cons (tev_c fun _ => .int _) (tav_cons (tev_cb (tav_cons (tev_var (i := 0)) tav_nil) cb_len) tav_nil)) cb_min2) tav_nil)) cb_max2) tav_nil))) tgq_name (tsm_seq (tsm_set (tem_call rfl (tam_val (tem_lift (tev_var (i := 0))) (tam_val (tem_lift (tev_var (i := 1))) tam_nil)))) (tsm_seq (tsm_set (tem_frz (tem_call rfl (tam_ref tam_nil)))) (tsm_seq (tsm_asg (tgq_tup (tgsq_cons tgq_name (tgsq_cons tgq_name tgsq_nil))) (tem_lift (tev_tup (tav_cons (tev_call (qlen_cons qlen_nil) (tav_cons (tev_var (i := 3)) tav_nil)) (tav_cons (tev_cb (tav_cons (tev_op (tev_var (i := 3)) (tev_c fun _ => .int _) ov_ix) tav_nil) cb_len) tav_nil))))) (tsm_seq (tsm_set (tem_lift (tev_n (ten_lst tav_nil)))) (tsm_seq (tsm_for (tim_lift (tif_rng1 (tav_cons (tev_var (i := 5)) tav_nil))) tgq_name (tsm_set (tem_lift (tev_op (tev_var (i := 6)) (tev_n (ten_lc (TIf.v (tif_rng2 (tav_cons (tev_op (tev_var (i := 7)) (tev_c fun _ => .int _) ov_add) (tav_cons (tev_var (i := 5)) tav_nil)))) tgq_name (by decide) (ttv_B (tev_cb (tav_cons (tev_n (ten_lc (tiv_any (tev_var (i := 4))) tgq_name (by decide) ttv_yes (tev_andV (tev_op (tev_var (i := 7)) (tev_var (i := 11)) ov_in) (tev_op (tev_var (i := 10)) (tev_var (i := 11)) ov_in)))) tav_nil) cb_any)) (tev_tup (tav_cons (tev_var (i := 7)) (tav_cons (tev_var (i := 10)) tav_nil))))) ov_add)))) (tsm_for (tim_lift (tif_rng1 (tav_cons (tev_c fun _ => .int _) tav_nil))) tgq_name (tsm_seq (tsm_set (tem_call rfl (tam_val (tem_lift (tev_var (i := 3))) tam_nil))) (tsm_seq (tsm_if (ttm_lift (ttv_not (ttv_B (tev_call (qlen_cons (qlen_cons qlen_nil)) (tav_cons (tev_var (i := 9)) (tav_cons (tev_var (i := 6)) tav_nil)))))) (tsm_ret (tem_lift (tev_c fun _ => .bl _))) tsm_next) (tsm_seq (tsm_drop (tem_mt0 lm_rev)) (tsm_drop (tem_mt (tam_val (tem_lift (tev_tup (tav_cons (tev_c fun _ => .int _) (tav_cons (tev_c fun _ => .int _) tav_nil)))) tam_nil) lm_append)))))))))))) (tsm_seq (tsm_asg (tgq_tup (tgsq_cons tgq_name (tgsq_cons tgq_name tgsq_nil))) (tem_lift (tev_tup (tav_cons (tev_tup (tav_cons (tev_c fun _ => .str _) (tav_cons (tev_tup tav_nil) (tav_cons (tev_c fun _ => .int _) tav_nil)))) (tav_cons (tev_tup (tav_cons (tev_c fun _ => .str _) (tav_cons (tev_tup tav_nil) (tav_cons (tev_c fun _ => .int _) tav_nil)))) tav_nil))))) (tsm_seq (tsm_set (tem_lift (tev_op (tev_cb (tav_cons (tev_n (ten_lc (TIf.v (tif_rng1 (tav_cons (tev_c fun _ => .int _) tav_nil))) tgq_name (by decide) ttv_yes (tev_tup (tav_cons (tev_c fun _ => .str _) (tav_cons (tev_tup tav_nil) (tav_cons (tev_var (i := 7)) tav_nil)))))) tav_nil) cb_tuple) (tev_tup (tav_cons (tev_tup (tav_cons (tev_c fun _ => .str _) (tav_cons (tev_trg1 (tev_c fun _ => .int _)) (tav_cons (tev_c fun _ => .non) tav_nil)))) tav_nil)) ov_add))) (tsm_seq (tsm_set (tem_lift (tev_n (ten_lst tav_nil)))) (tsm_seq (tsm_for (tim_lift (tif_rng1 (tav_cons (tev_c fun _ => .int _) tav_nil))) tgq_name (tsm_set (tem_lift (tev_op (tev_var (i := 6)) (tev_n (ten_lc (TIf.v (tif_rng2 (tav_cons (tev_op (tev_var (i := 7)) (tev_c fun _ => .int _) ov_add) (tav_cons (tev_c fun _ => .int _) tav_nil)))) tgq_name (by decide) ttv_yes (tev_tup (tav_cons (tev_var (i := 7)) (tav_cons (tev_var (i := 10)) tav_nil))))) ov_add)))) (tsm_seq (tsm_if (ttm_lift (ttv_test (tev_op (tev_call (qlen_cons qlen_nil) (tav_cons (tev_tup (tav_cons (tev_op (tev_tup (tav_cons (tev_tup (tav_cons (tev_c fun _ => .int _) (tav_cons (tev_c fun _ => .int _) tav_nil))) tav_nil)) (tev_c fun _ => .int _) ov_mulT) (tav_cons (tev_var (i := 14)) tav_nil))) tav_nil)) (tev_var (i := 6)) ov_ne))) (tsm_ret (tem_lift (tev_c fun _ => .bl _))) tsm_next) (tsm_seq (tsm_set (tem_lift (tev_tup (tav_cons (tev_tup (tav_cons (tev_tup (tav_cons (tev_c fun _ => .int _) (tav_cons (tev_c fun _ => .int _) tav_nil))) (tav_cons (tev_tup (tav_cons (tev_c fun _ => .int _) (tav_cons (tev_c fun _ => .int _) tav_nil))) tav_nil))) (tav_cons (tev_tup (tav_cons (tev_var (i := 12)) (tav_cons (tev_tup (tav_cons (tev_c fun _ => .str _) (tav_cons (tev_tup (tav_cons (tev_c fun _ => .int _) tav_nil)) (tav_cons (tev_c fun _ => .int _) tav_nil)))) (tav_cons (tev_tup (tav_cons (tev_c fun _ => .str _) (tav_cons (tev_tup (tav_cons (tev_c fun _ => .int _) tav_nil)) (tav_cons (tev_c fun _ => .non) tav_nil)))) tav_nil)))) tav_nil))))) (tsm_ret (tem_lift (tev_andV (tev_op (tev_call (qlen_cons qlen_nil) (tav_cons (tev_var (i := 15)) tav_nil)) (tev_n (ten_lst tav_nil)) ov_eq) (tev_op (tev_call (qlen_cons qlen_nil) (tav_cons (tev_tup (tav_cons (tev_op (tev_var (i := 15)) (tev_c fun _ => .int _) ov_ix) (tav_cons (tev_tup (tav_cons (tev_var (i := 12)) (tav_cons (tev_var (i := 13)) (tav_cons (tev_tup (tav_cons (tev_c fun _ => .str _) (tav_cons (tev_tup (tav_cons (tev_c fun _ => .int _) (tav_cons (tev_c fun _ => .int _) tav_nil))) (tav_cons (tev_c fun _ => .non) tav_nil)))) tav_nil)))) tav_nil))) tav_nil)) (tev_n (ten_lst (tav_cons (tev_tup (tav_cons (tev_c fun _ => .int _) (tav_cons (tev_c fun _ => .int _) tav_nil))) tav_nil))) ov_eq))))))))))), by decide⟩
end
def hcl (K : Frag) : Nat → Addr
  | 0 => He.ga K "Walk"
  | 1 => He.ga K "Flow"
  | _ => 0
def d__law_tape : He.DefD := ⟨("_law_tape", none), "_law_tape", "_law_tape", defArgs s__law_tape, defBody s__law_tape, defScope s__law_tape, [], []⟩
def d__law_draw : He.DefD := ⟨("_law_draw", none), "_law_draw", "_law_draw", defArgs s__law_draw, defBody s__law_draw, defScope s__law_draw, [], []⟩
def d__law_things : He.DefD := ⟨("_law_things", none), "_law_things", "_law_things", defArgs s__law_things, defBody s__law_things, defScope s__law_things, [], []⟩
def d__law_row : He.DefD := ⟨("_law_row", none), "_law_row", "_law_row", defArgs s__law_row, defBody s__law_row, defScope s__law_row, [], []⟩
def d__law_parted : He.DefD := ⟨("_law_parted", none), "_law_parted", "_law_parted", defArgs s__law_parted, defBody s__law_parted, defScope s__law_parted, [], []⟩
def d__law_items : He.DefD := ⟨("_law_items", none), "_law_items", "_law_items", defArgs s__law_items, defBody s__law_items, defScope s__law_items, [], []⟩
def d__law_program : He.DefD := ⟨("_law_program", none), "_law_program", "_law_program", defArgs s__law_program, defBody s__law_program, defScope s__law_program, [], []⟩
def d_Walk___init__ : He.DefD := ⟨("Walk", some "__init__"), "__init__", "Walk.__init__", defArgs s_Walk___init__, defBody s_Walk___init__, defScope s_Walk___init__, [], []⟩
def d_in_both : He.DefD := ⟨("in_both", none), "in_both", "in_both", defArgs s_in_both, defBody s_in_both, defScope s_in_both, [], []⟩
def d_reads_of : He.DefD := ⟨("reads_of", none), "reads_of", "reads_of", defArgs s_reads_of, defBody s_reads_of, defScope s_reads_of, [], []⟩
def d_with_one : He.DefD := ⟨("with_one", none), "with_one", "with_one", defArgs s_with_one, defBody s_with_one, defScope s_with_one, [], []⟩
def d_write_of : He.DefD := ⟨("write_of", none), "write_of", "write_of", defArgs s_write_of, defBody s_write_of, defScope s_write_of, [], []⟩
def d_Walk_take : He.DefD := ⟨("Walk", some "take"), "take", "Walk.take", defArgs s_Walk_take, defBody s_Walk_take, defScope s_Walk_take, [], []⟩
def d_Walk_item : He.DefD := ⟨("Walk", some "item"), "item", "Walk.item", defArgs s_Walk_item, defBody s_Walk_item, defScope s_Walk_item, [], []⟩
def d_Walk_items : He.DefD := ⟨("Walk", some "items"), "items", "Walk.items", defArgs s_Walk_items, defBody s_Walk_items, defScope s_Walk_items, [], []⟩
def d_walked : He.DefD := ⟨("walked", none), "walked", "walked", defArgs s_walked, defBody s_walked, defScope s_walked, [], []⟩
def d_read_on : He.DefD := ⟨("read_on", none), "read_on", "read_on", defArgs s_read_on, defBody s_read_on, defScope s_read_on, [], []⟩
def d_read_ahead : He.DefD := ⟨("read_ahead", none), "read_ahead", "read_ahead", defArgs s_read_ahead, defBody s_read_ahead, defScope s_read_ahead, [], []⟩
def d_Flow___init__ : He.DefD := ⟨("Flow", some "__init__"), "__init__", "Flow.__init__", defArgs s_Flow___init__, defBody s_Flow___init__, defScope s_Flow___init__, [], []⟩
def d_Flow_linked : He.DefD := ⟨("Flow", some "linked"), "linked", "Flow.linked", defArgs s_Flow_linked, defBody s_Flow_linked, defScope s_Flow_linked, [], []⟩
def d_Flow_item : He.DefD := ⟨("Flow", some "item"), "item", "Flow.item", defArgs s_Flow_item, defBody s_Flow_item, defScope s_Flow_item, [], []⟩
def d_Flow_items : He.DefD := ⟨("Flow", some "items"), "items", "Flow.items", defArgs s_Flow_items, defBody s_Flow_items, defScope s_Flow_items, [], []⟩
def d_next_rows : He.DefD := ⟨("next_rows", none), "next_rows", "next_rows", defArgs s_next_rows, defBody s_next_rows, defScope s_next_rows, [], []⟩
def d_alive_behind : He.DefD := ⟨("alive_behind", none), "alive_behind", "alive_behind", defArgs s_alive_behind, defBody s_alive_behind, defScope s_alive_behind, [], []⟩
def d_busy_behind : He.DefD := ⟨("busy_behind", none), "busy_behind", "busy_behind", defArgs s_busy_behind, defBody s_busy_behind, defScope s_busy_behind, [], []⟩
def d_clashes : He.DefD := ⟨("clashes", none), "clashes", "clashes", defArgs s_clashes, defBody s_clashes, defScope s_clashes, [], []⟩
def d__law_same : He.DefD := ⟨("_law_same", none), "_law_same", "_law_same", defArgs s__law_same, defBody s__law_same, defScope s__law_same, [], []⟩
def d_law : He.DefD := ⟨("law", none), "law", "law", defArgs s_law, defBody s_law, defScope s_law, [], []⟩
def hfn : List He.DefD := ([d__law_tape, d__law_draw, d__law_things, d__law_row, d__law_parted, d__law_items, d__law_program, d_Walk___init__, d_in_both, d_reads_of, d_with_one, d_write_of] : List He.DefD) ++ ([d_Walk_take, d_Walk_item, d_Walk_items, d_walked, d_read_on, d_read_ahead, d_Flow___init__, d_Flow_linked, d_Flow_item, d_Flow_items, d_next_rows, d_alive_behind] : List He.DefD) ++ ([d_busy_behind, d_clashes, d__law_same, d_law] : List He.DefD)
def hfa : List He.Fa := ([.glo "_law_tape", .glo "_law_draw", .glo "_law_things", .glo "_law_row", .glo "_law_parted", .glo "_law_items", .glo "_law_program", .mkr "Walk", .glo "in_both", .glo "reads_of", .glo "with_one", .glo "write_of"] : List He.Fa) ++ ([.meth "Walk" "take", .meth "Walk" "item", .meth "Walk" "items", .glo "walked", .glo "read_on", .glo "read_ahead", .mkr "Flow", .meth "Flow" "linked", .meth "Flow" "item", .meth "Flow" "items", .glo "next_rows", .glo "alive_behind"] : List He.Fa) ++ ([.glo "busy_behind", .glo "clashes", .glo "_law_same", .glo "law", .free "abs", .free "all", .free "any", .free "bool", .free "enumerate", .free "int", .free "isinstance", .free "len"] : List He.Fa) ++ ([.free "list", .free "max", .free "min", .free "range", .free "set", .free "sorted", .free "str", .free "tuple", .free "zip", .str "BACK" "back", .str "EITHER" "either", .str "GIVE" "give"] : List He.Fa) ++ ([.str "ROUND" "round", .glo "Walk", .cls "Walk", .noat "Walk" "rows", .noat "Walk" "written", .noat "Walk" "held_out", .noat "Walk" "right", .glo "Flow", .cls "Flow", .noat "Flow" "nexts"] : List He.Fa)
def hloose : List PySem.Str := (["GIVE", "BACK", "EITHER", "ROUND", "reads_of", "write_of", "with_one", "in_both", "Walk", "walked", "Flow", "next_rows"] : List PySem.Str) ++ (["read_on", "read_ahead", "alive_behind", "busy_behind", "clashes", "_law_tape", "_law_draw", "_law_things", "_law_row", "_law_parted", "_law_items", "_law_program"] : List PySem.Str) ++ (["_law_same"] : List PySem.Str)
abbrev hR : PySem.W.OpenRow := PySem.W.OpenLaw.row PySem.Challenge.rw_frameshare_k11_pairs_that_clash
abbrev hhk : PySem.W.Hook := He.hookD 6 hfa hfn
def hob (s : PySem.W.SharedT) : He.AlD := He.obsDG 6 hfa hfn (HandSHeadRun.getT s)
theorem hob_eq (s : PySem.W.SharedT) : hob s = hhk.obs s.abs := He.obsDG_eq (HandSHeadRun.getT_eq s)
theorem hrun (w : World) : HandSHeadRun.RunEq hR (PySem.W.view hR.prog [29]) hhk hob 2000 hloose w := by
  intro os
  kernel_rfl
theorem hfacts {P : Program} {w : World} {K : Frag} {h : Heap} {mg : Str → Option Value} {f : Addr} (X : K.In h) (G : h.Ns mainGlobals mg) (hf : mg ("law" : Str) = some (.ref f)) (c : He.SaysD hfa hfn K) :
    ∃ fd : FuncData, (∀ (s : Shared) (v : Value), BindsTo s fd ⟨[v], []⟩ [("_law_script", v)]) ∧ ∀ base : Heap, FnG P w K mg base (CXg P w) 52 f fd ["_law_script"] (spM ⟨K, hcl K⟩ 1 f_law) := by
  have Fc : Fct K (hcl K) mg := ⟨He.cls_ok (c.fact 50 (f := .cls "Walk") rfl), He.noat_ok (c.fact 51 (f := .noat "Walk" "rows") rfl), He.noat_ok (c.fact 52 (f := .noat "Walk" "written") rfl), He.noat_ok (c.fact 53 (f := .noat "Walk" "held_out") rfl), He.noat_ok (c.fact 54 (f := .noat "Walk" "right") rfl), He.cls_ok (c.fact 56 (f := .cls "Flow") rfl), He.noat_ok (c.fact 57 (f := .noat "Flow" "nexts") rfl), He.free_ok X G (c.fact 28 (f := .free "abs") rfl), He.free_ok X G (c.fact 29 (f := .free "all") rfl), He.free_ok X G (c.fact 30 (f := .free "any") rfl), He.free_ok X G (c.fact 31 (f := .free "bool") rfl), He.free_ok X G (c.fact 32 (f := .free "enumerate") rfl), He.free_ok X G (c.fact 33 (f := .free "int") rfl), He.free_ok X G (c.fact 34 (f := .free "isinstance") rfl), He.free_ok X G (c.fact 35 (f := .free "len") rfl), He.free_ok X G (c.fact 36 (f := .free "list") rfl), He.free_ok X G (c.fact 37 (f := .free "max") rfl), He.free_ok X G (c.fact 38 (f := .free "min") rfl), He.free_ok X G (c.fact 39 (f := .free "range") rfl), He.free_ok X G (c.fact 40 (f := .free "set") rfl), He.free_ok X G (c.fact 41 (f := .free "sorted") rfl), He.free_ok X G (c.fact 42 (f := .free "str") rfl), He.free_ok X G (c.fact 43 (f := .free "tuple") rfl), He.free_ok X G (c.fact 44 (f := .free "zip") rfl), He.str_ok X G (c.fact 45 (f := .str "BACK" "back") rfl), He.str_ok X G (c.fact 46 (f := .str "EITHER" "either") rfl), He.str_ok X G (c.fact 47 (f := .str "GIVE" "give") rfl), He.str_ok X G (c.fact 48 (f := .str "ROUND" "round") rfl)⟩
  obtain ⟨fd__law_tape, F__law_tape⟩ := c.def_ 0 (d := d__law_tape) rfl
  obtain ⟨fd__law_draw, F__law_draw⟩ := c.def_ 1 (d := d__law_draw) rfl
  obtain ⟨fd__law_things, F__law_things⟩ := c.def_ 2 (d := d__law_things) rfl
  obtain ⟨fd__law_row, F__law_row⟩ := c.def_ 3 (d := d__law_row) rfl
  obtain ⟨fd__law_parted, F__law_parted⟩ := c.def_ 4 (d := d__law_parted) rfl
  obtain ⟨fd__law_items, F__law_items⟩ := c.def_ 5 (d := d__law_items) rfl
  obtain ⟨fd__law_program, F__law_program⟩ := c.def_ 6 (d := d__law_program) rfl
  obtain ⟨fd_Walk___init__, F_Walk___init__⟩ := c.def_ 7 (d := d_Walk___init__) rfl
  obtain ⟨fd_in_both, F_in_both⟩ := c.def_ 8 (d := d_in_both) rfl
  obtain ⟨fd_reads_of, F_reads_of⟩ := c.def_ 9 (d := d_reads_of) rfl
  obtain ⟨fd_with_one, F_with_one⟩ := c.def_ 10 (d := d_with_one) rfl
  obtain ⟨fd_write_of, F_write_of⟩ := c.def_ 11 (d := d_write_of) rfl
  obtain ⟨fd_Walk_take, F_Walk_take⟩ := c.def_ 12 (d := d_Walk_take) rfl
  obtain ⟨fd_Walk_item, F_Walk_item⟩ := c.def_ 13 (d := d_Walk_item) rfl
  obtain ⟨fd_Walk_items, F_Walk_items⟩ := c.def_ 14 (d := d_Walk_items) rfl
  obtain ⟨fd_walked, F_walked⟩ := c.def_ 15 (d := d_walked) rfl
  obtain ⟨fd_read_on, F_read_on⟩ := c.def_ 16 (d := d_read_on) rfl
  obtain ⟨fd_read_ahead, F_read_ahead⟩ := c.def_ 17 (d := d_read_ahead) rfl
  obtain ⟨fd_Flow___init__, F_Flow___init__⟩ := c.def_ 18 (d := d_Flow___init__) rfl
  obtain ⟨fd_Flow_linked, F_Flow_linked⟩ := c.def_ 19 (d := d_Flow_linked) rfl
  obtain ⟨fd_Flow_item, F_Flow_item⟩ := c.def_ 20 (d := d_Flow_item) rfl
  obtain ⟨fd_Flow_items, F_Flow_items⟩ := c.def_ 21 (d := d_Flow_items) rfl
  obtain ⟨fd_next_rows, F_next_rows⟩ := c.def_ 22 (d := d_next_rows) rfl
  obtain ⟨fd_alive_behind, F_alive_behind⟩ := c.def_ 23 (d := d_alive_behind) rfl
  obtain ⟨fd_busy_behind, F_busy_behind⟩ := c.def_ 24 (d := d_busy_behind) rfl
  obtain ⟨fd_clashes, F_clashes⟩ := c.def_ 25 (d := d_clashes) rfl
  obtain ⟨fd__law_same, F__law_same⟩ := c.def_ 26 (d := d__law_same) rfl
  obtain ⟨fd_law, F_law⟩ := c.def_ 27 (d := d_law) rfl
  have e := hf.symm.trans (He.glo_ok X G (c.fact 27 (f := .glo "law") rfl))
  cases e
  refine ⟨fd_law, fun s v => FunD.bindsA (ps := ["_law_script"]) F_law (fun _ _ _ _ _ _ us hl => match us, hl with | [_], _ => rfl) s [v] rfl, fun base => ?_⟩
  have c__law_tape := ok__law_tape (P := P) (w := w) (base := base) (cl := hcl K) Fc F__law_tape (He.glo_ok X G (c.fact 0 (f := .glo "_law_tape") rfl))
  have c__law_draw := ok__law_draw (P := P) (w := w) (base := base) (cl := hcl K) Fc F__law_draw (He.glo_ok X G (c.fact 1 (f := .glo "_law_draw") rfl))
  have c__law_things := ok__law_things (P := P) (w := w) (base := base) (cl := hcl K) Fc F__law_things (He.glo_ok X G (c.fact 2 (f := .glo "_law_things") rfl)) c__law_draw
  have c__law_row := ok__law_row (P := P) (w := w) (base := base) (cl := hcl K) Fc F__law_row (He.glo_ok X G (c.fact 3 (f := .glo "_law_row") rfl)) c__law_draw
  have cg__law_parted := all__law_parted (P := P) (w := w) (base := base) (cl := hcl K) Fc F__law_parted (He.glo_ok X G (c.fact 4 (f := .glo "_law_parted") rfl)) F__law_items (He.glo_ok X G (c.fact 5 (f := .glo "_law_items") rfl)) c__law_draw c__law_row 45
  have c__law_parted : CalG P w K mg base 47 "_law_parted" (spM ⟨K, hcl K⟩ 3 f__law_parted) := cg__law_parted.1
  have c__law_items : CalG P w K mg base 47 "_law_items" (spM ⟨K, hcl K⟩ 3 f__law_items) := cg__law_parted.2
  have c__law_program := ok__law_program (P := P) (w := w) (base := base) (cl := hcl K) Fc F__law_program (He.glo_ok X G (c.fact 6 (f := .glo "_law_program") rfl)) c__law_draw c__law_things c__law_items
  have c_Walk___init__ := ok_Walk___init__ (P := P) (w := w) (base := base) (cl := hcl K) Fc F_Walk___init__ (⟨He.mkr_ok (c.fact 7 (f := .mkr "Walk") rfl), He.glo_ok X G (c.fact 49 (f := .glo "Walk") rfl)⟩)
  have c_in_both := ok_in_both (P := P) (w := w) (base := base) (cl := hcl K) Fc F_in_both (He.glo_ok X G (c.fact 8 (f := .glo "in_both") rfl))
  have c_reads_of := ok_reads_of (P := P) (w := w) (base := base) (cl := hcl K) Fc F_reads_of (He.glo_ok X G (c.fact 9 (f := .glo "reads_of") rfl))
  have c_with_one := ok_with_one (P := P) (w := w) (base := base) (cl := hcl K) Fc F_with_one (He.glo_ok X G (c.fact 10 (f := .glo "with_one") rfl))
  have c_write_of := ok_write_of (P := P) (w := w) (base := base) (cl := hcl K) Fc F_write_of (He.glo_ok X G (c.fact 11 (f := .glo "write_of") rfl))
  have c_Walk_take := ok_Walk_take (P := P) (w := w) (base := base) (cl := hcl K) Fc F_Walk_take (He.meth_ok (c.fact 12 (f := .meth "Walk" "take") rfl)) c_reads_of c_with_one c_write_of
  have cg_Walk_item := all_Walk_item (P := P) (w := w) (base := base) (cl := hcl K) Fc F_Walk_item (He.meth_ok (c.fact 13 (f := .meth "Walk" "item") rfl)) F_Walk_items (He.meth_ok (c.fact 14 (f := .meth "Walk" "items") rfl)) c_in_both c_Walk_take 45
  have c_Walk_item : MethG P w K mg base 47 (hcl K 0) "item" (spM ⟨K, hcl K⟩ 4 f_Walk_item) := cg_Walk_item.1
  have c_Walk_items : MethG P w K mg base 47 (hcl K 0) "items" (spM ⟨K, hcl K⟩ 4 f_Walk_items) := cg_Walk_item.2
  have c_walked := ok_walked (P := P) (w := w) (base := base) (cl := hcl K) Fc F_walked (He.glo_ok X G (c.fact 15 (f := .glo "walked") rfl)) c_Walk___init__ c_Walk_items
  have c_read_on := ok_read_on (P := P) (w := w) (base := base) (cl := hcl K) Fc F_read_on (He.glo_ok X G (c.fact 16 (f := .glo "read_on") rfl)) c_reads_of c_with_one c_write_of
  have c_read_ahead := ok_read_ahead (P := P) (w := w) (base := base) (cl := hcl K) Fc F_read_ahead (He.glo_ok X G (c.fact 17 (f := .glo "read_ahead") rfl)) c_read_on
  have c_Flow___init__ := ok_Flow___init__ (P := P) (w := w) (base := base) (cl := hcl K) Fc F_Flow___init__ (⟨He.mkr_ok (c.fact 18 (f := .mkr "Flow") rfl), He.glo_ok X G (c.fact 55 (f := .glo "Flow") rfl)⟩)
  have c_Flow_linked := ok_Flow_linked (P := P) (w := w) (base := base) (cl := hcl K) Fc F_Flow_linked (He.meth_ok (c.fact 19 (f := .meth "Flow" "linked") rfl))
  have cg_Flow_item := all_Flow_item (P := P) (w := w) (base := base) (cl := hcl K) Fc F_Flow_item (He.meth_ok (c.fact 20 (f := .meth "Flow" "item") rfl)) F_Flow_items (He.meth_ok (c.fact 21 (f := .meth "Flow" "items") rfl)) c_Flow_linked 45
  have c_Flow_item : MethG P w K mg base 46 (hcl K 1) "item" (spM ⟨K, hcl K⟩ 2 f_Flow_item) := cg_Flow_item.1
  have c_Flow_items : MethG P w K mg base 46 (hcl K 1) "items" (spM ⟨K, hcl K⟩ 2 f_Flow_items) := cg_Flow_item.2
  have c_next_rows := ok_next_rows (P := P) (w := w) (base := base) (cl := hcl K) Fc F_next_rows (He.glo_ok X G (c.fact 22 (f := .glo "next_rows") rfl)) c_Flow___init__ c_Flow_items
  have c_alive_behind := ok_alive_behind (P := P) (w := w) (base := base) (cl := hcl K) Fc F_alive_behind (He.glo_ok X G (c.fact 23 (f := .glo "alive_behind") rfl)) c_walked c_read_ahead c_next_rows
  have c_busy_behind := ok_busy_behind (P := P) (w := w) (base := base) (cl := hcl K) Fc F_busy_behind (He.glo_ok X G (c.fact 24 (f := .glo "busy_behind") rfl)) c_alive_behind c_write_of c_walked c_with_one
  have c_clashes := ok_clashes (P := P) (w := w) (base := base) (cl := hcl K) Fc F_clashes (He.glo_ok X G (c.fact 25 (f := .glo "clashes") rfl)) c_busy_behind
  have cg__law_same := all__law_same (P := P) (w := w) (base := base) (cl := hcl K) Fc F__law_same (He.glo_ok X G (c.fact 26 (f := .glo "_law_same") rfl)) 45
  have c__law_same : CalG P w K mg base 45 "_law_same" (spM ⟨K, hcl K⟩ 2 f__law_same) := cg__law_same
  exact ok_law Fc F_law c__law_tape c__law_program c_busy_behind c_clashes c__law_same
end FM
namespace FM
open PySem PySem.Spec L2 PyProof.Rows
def tpO (a s c : Int) : O := .lst [.int a, .int s, .int c]
theorem draw_spec {a s c m : Int} {n : Nat} {Q : O → List O → Prop} (ha : 0 ≤ a) (hs : 0 ≤ s) (hs2 : s < 2 ^ 62) (hc : 0 ≤ c) (hc2 : c ≤ n) (hn : n < 2 ^ 40) (hm : 0 < m) (hm2 : m < 2 ^ 200)
    (h : ∀ r a' c', 0 ≤ r → r < m → 0 ≤ a' → 0 ≤ c' → c' ≤ ((n + 1 : Nat) : Int) → Q (.fz (.int r)) [.lst [.int a', .int s, .int c'], .dead]) : wF (f__law_draw [.lst [.int a, .int s, .int c], .fz (.int m)]) Q := by
  unfold f__law_draw m__law_draw
  simp (maxSteps := 2000000) (disch := omega) [wS_seq, List.getElem?_cons_zero, qOp, qB, qCons, qNil, ixN, oMod_i, oDiv_i, oPow_i, oMul_l, oMul_r]
  refine ⟨fun h0 => ?_, fun h0 => ?_⟩
  · exact h _ _ _ (Int.emod_nonneg _ (by omega)) (Int.emod_lt_of_pos _ hm) (Int.ediv_nonneg ha (by omega)) hc (by omega)
  · exact h _ _ _ (Int.emod_nonneg _ (by omega)) (Int.emod_lt_of_pos _ hm) ha (by omega) (by omega)
theorem tape_spec {ns : List Int} {k : Int} {Q : O → List O → Prop} (h0 : 0 ≤ k) (h1 : k ≤ 100) (h : ∀ a s, 0 ≤ a → 0 ≤ s → s < 2 ^ 62 → Q (.lst [.int a, .int s, .int 0]) [.dead, .dead]) : wF (f__law_tape [.fz (.list (ns.map .int)), .fz (.int k)]) Q := by
  unfold f__law_tape m__law_tape
  simp (maxSteps := 2000000) (disch := omega) [wS_seq, List.getElem?_cons_zero, qOp, qB, qCons, qNil, qIf, qCb, qLst, ixN, oMod_i, oDiv_i, oPow_i, oMul_l, oMul_r]
  have hc : ∃ cell : Int, (match some (decide (k < ns.length)) with
        | some true => Option.map O.fz (atI (List.map PyData.int ns) k)
        | some false => some (O.fz (PyData.int 0))
        | none => none) = some (.fz (.int cell)) := by
    by_cases hk : k < ns.length
    · refine ⟨ns[k.toNat]'(by omega), ?_⟩
      rw [decide_eq_true hk, atI_nn h0]
      simp
    · refine ⟨0, ?_⟩
      rw [decide_eq_false hk]
  obtain ⟨cell, hc⟩ := hc
  refine ⟨_, hc, ?_⟩
  have h3 := Int.emod_nonneg cell (by decide : (2305843009213693951 : Int) ≠ 0)
  have h4 := Int.emod_lt_of_pos cell (by decide : (0 : Int) < 2305843009213693951)
  by_cases hb : (1000000000000000000 : Int) ≤ (if cell < 0 then -cell else cell)
  · simp (maxSteps := 2000000) (disch := omega) [hb, oMod_i, oMul_r, sizeLine]
    exact h _ _ (by omega) (by omega) (by omega)
  · simp (maxSteps := 2000000) (disch := omega) [hb, oMod_i, oMul_r, sizeLine]
    exact h _ _ (by omega) (by omega) (by omega)
theorem things_spec {a s c m : Int} {n : Nat} {Q : O → List O → Prop} (ha : 0 ≤ a) (hs : 0 ≤ s) (hs2 : s < 2 ^ 62) (hc : 0 ≤ c) (hc2 : c ≤ n) (hn : n < 2 ^ 39) (hm : 0 ≤ m) (hm2 : m ≤ 1000)
    (h : ∀ ts a' c', okT ts → (ts.length : Int) = m → 0 ≤ a' → 0 ≤ c' → c' ≤ ((n + 6001 : Nat) : Int) → Q (.fz (.tuple (ts.map thD))) [.lst [.int a', .int s, .int c'], .dead]) : wF (f__law_things [.lst [.int a, .int s, .int c], .fz (.int m)]) Q := by
  unfold f__law_things m__law_things
  rw [wF_defN, wS_seq]
  simp (maxSteps := 2000000) (disch := omega) [List.getElem?_cons_zero, qCons, qNil, qLst, sizeLine, qRng1]
  refine draw_spec ha hs hs2 hc hc2 (by omega) (by decide) (by decide) fun way a1 c1 w0 w1 ha1 hc1 hc1' => ?_
  have hb : big62 m = true := by unfold big62; simp; omega
  simp (maxSteps := 2000000) (disch := omega) [List.getElem?_cons_zero, qCons, qNil, qLst, sizeLine, qRng1, hb]
  rw [wS_seq]
  simp (maxSteps := 2000000) (disch := omega) [List.getElem?_cons_zero, qCons, qNil, qLst, sizeLine, qRng1, hb]
  refine wS_forI (fun i ρ => ∃ a c ts x4 x5 x6, ρ = [.lst [.int a, .int s, .int c], .fz (.int m), .fz (.int way), .lst (ts.map thD), x4, x5, x6] ∧ 0 ≤ a ∧ 0 ≤ c ∧ c ≤ ((n + 1 + 6 * i : Nat) : Int) ∧ ts.length = i ∧ okT ts) ⟨a1, c1, [], .dead, .dead, .dead, rfl, ha1, hc1, by omega, rfl, fun p m => by cases m⟩ ?_ ?_
  · rintro i x ρ ex ⟨a2, c2, ts, x4, x5, x6, rfl, ha2, hc2, hc2', hl, hk⟩
    have hi : i < m.toNat := by
      have : (rngD 0 m.toNat)[i]? ≠ none := by rw [ex]; simp
      simpa [rngD] using this
    refine ⟨_, rfl, ?_⟩
    rw [wS_seq]
    simp (maxSteps := 2000000) (disch := omega) [List.getElem?_cons_zero, qCons, qNil, qLst, sizeLine, qOp, oPow_i]
    refine draw_spec ha2 hs hs2 hc2 hc2' (by omega) (by decide) (by decide) fun r1 a3 c3 r1a r1b ha3 hc3 hc3' => ?_
    simp (maxSteps := 2000000) (disch := omega) [List.getElem?_cons_zero, qCons, qNil, qLst, sizeLine, qOp, oPow_i]
    refine draw_spec ha3 hs hs2 hc3 hc3' (by omega) (by decide) (by decide) fun r2 a4 c4 r2a r2b ha4 hc4 hc4' => ?_
    simp (maxSteps := 2000000) (disch := omega) [List.getElem?_cons_zero, qCons, qNil, qLst, sizeLine, qOp, oPow_i]
    refine draw_spec ha4 hs hs2 hc4 hc4' (by omega) (by decide) (by decide) fun r3 a5 c5 r3a r3b ha5 hc5 hc5' => ?_
    obtain ⟨z, z1, z2, z3⟩ := pickI (xs := [1 + r1, 8, 1 + r2, 1 + r3]) (lo := 1) (hi := 10 ^ 9) (i := way) (by
      intro x hx
      simp at hx
      rcases hx with rfl | rfl | rfl | rfl <;> omega) w0 (by simpa using w1)
    simp only [List.map_cons, List.map_nil] at z3
    simp (maxSteps := 2000000) (disch := omega) [List.getElem?_cons_zero, qCons, qNil, qLst, sizeLine, qOp, oPow_i, z3]
    rw [wS_seq]
    simp (maxSteps := 2000000) (disch := omega) [List.getElem?_cons_zero, qCons, qNil, qLst, sizeLine, qOp, oPow_i]
    refine draw_spec ha5 hs hs2 hc5 hc5' (by omega) (by decide) (by decide) fun r4 a6 c6 r4a r4b ha6 hc6 hc6' => ?_
    simp (maxSteps := 2000000) (disch := omega) [List.getElem?_cons_zero, qCons, qNil, qLst, sizeLine, qOp, oPow_i]
    refine draw_spec ha6 hs hs2 hc6 hc6' (by omega) (by decide) (by decide) fun r5 a7 c7 r5a r5b ha7 hc7 hc7' => ?_
    obtain ⟨y, y1, y2, y3⟩ := pickI (xs := [1, 1, 2, 4, 8, 3, 6, 1 + r4]) (lo := 1) (hi := 64) (i := r5) (by
      intro x hx
      simp at hx
      rcases hx with rfl | rfl | rfl | rfl | rfl | rfl | rfl | rfl <;> omega) r5a (by simpa using r5b)
    simp only [List.map_cons, List.map_nil] at y3
    simp (maxSteps := 2000000) (disch := omega) [List.getElem?_cons_zero, qCons, qNil, qLst, sizeLine, qOp, oPow_i, y3]
    refine draw_spec ha7 hs hs2 hc7 hc7' (by omega) (by decide) (by decide) fun r6 a8 c8 r6a r6b ha8 hc8 hc8' => ?_
    obtain ⟨u, u1, u2, u3⟩ := pickI (xs := [1, 2, 4, 8]) (lo := 1) (hi := 8) (i := r6) (by
      intro x hx
      simp at hx
      rcases hx with rfl | rfl | rfl | rfl <;> omega) r6a (by simpa using r6b)
    simp only [List.map_cons, List.map_nil] at u3
    have hlen : ts.length < 16777216 := by omega
    have ext : ∀ v : Int, 1 ≤ v → v ≤ 64 → okT (ts ++ [(z, v)]) := fun v v1 v2 q m => by
      rcases List.mem_append.mp m with m | m
      · exact hk q m
      · rw [List.mem_singleton.mp m]
        exact ⟨z1, z2, v1, v2⟩
    by_cases hw : way = 1
    · subst hw
      simp (disch := omega) [List.getElem?_cons_zero, u3, fAppend, hlen, sizeLine, and_assoc]
      exact ⟨ts ++ [(z, u)], by simp [thD], ha8, hc8, by omega, by simp [hl], ext u u1 (by omega)⟩
    · simp (disch := omega) [List.getElem?_cons_zero, u3, fAppend, hlen, sizeLine, and_assoc, hw]
      exact ⟨ts ++ [(z, y)], by simp [thD], ha8, hc8, by omega, by simp [hl], ext y y1 y2⟩
  · rintro ρ ⟨a2, c2, ts, x4, x5, x6, rfl, ha2, hc2, hc2', hl, hk⟩
    have hl2 : (ts.length : Int) = m := by
      rw [hl]
      simp [rngD]
      omega
    simp
    exact h ts a2 c2 hk hl2 ha2 hc2 (by omega)
end FM
namespace FM
open PySem PySem.Spec L2 PyProof.Rows
@[simp] theorem ex2 {α β : Type} {a : α} {b : β} {P : α → β → Prop} : (∃ x y, (a = x ∧ b = y) ∧ P x y) ↔ P a b :=
  ⟨fun ⟨_, _, ⟨e1, e2⟩, h⟩ => by subst e1; subst e2; exact h, fun h => ⟨a, b, ⟨rfl, rfl⟩, h⟩⟩
/-! ### what a right program's items are -/
mutual
inductive It where
  | row (rs : List Int) (w : Option Int)
  | give (t : Int)
  | back (t : Int)
  | rnd (a : Its)
  | eit (a b : Its)
inductive Its where
  | nil
  | cons (x : It) (r : Its)
end
def wD : Option Int → PD
  | none => .none
  | some x => .int x
mutual
def pdI : It → PD
  | .row rs w => .tuple [.str "row", .tuple (rs.map .int), wD w]
  | .give t => .tuple [.str "give", .int t]
  | .back t => .tuple [.str "back", .int t]
  | .rnd a => .tuple [.str "round", .tuple (pdL a)]
  | .eit a b => .tuple [.str "either", .tuple (pdL a), .tuple (pdL b)]
def pdL : Its → List PD
  | .nil => []
  | .cons x r => pdI x :: pdL r
end
def Its.app : Its → Its → Its
  | .nil, b => b
  | .cons x r, b => .cons x (r.app b)
def Its.snoc (a : Its) (x : It) : Its := a.app (.cons x .nil)
def Its.len : Its → Nat
  | .nil => 0
  | .cons _ r => r.len + 1
theorem pdL_app : ∀ {a b : Its}, pdL (a.app b) = pdL a ++ pdL b
  | .nil, _ => rfl
  | .cons x r, b => by
    show pdI x :: pdL (r.app b) = _
    rw [pdL_app]
    rfl
theorem pdL_snoc {a : Its} {x : It} : pdL (a.snoc x) = pdL a ++ [pdI x] := pdL_app
theorem pdL_len : ∀ {a : Its}, (pdL a).length = a.len
  | .nil => rfl
  | .cons x r => by
    show (pdL r).length + 1 = _
    rw [pdL_len]
    rfl
theorem len_snoc {x : It} : ∀ {a : Its}, (a.snoc x).len = a.len + 1
  | .nil => rfl
  | .cons y r => congrArg (· + 1) (len_snoc (a := r))
def inR (m : Int) (x : Int) : Prop := 0 ≤ x ∧ x < m
mutual
def okI (m : Int) : It → Nat → Prop
  | .row rs w, _ => rs.length ≤ 24 ∧ (∀ x ∈ rs, inR m x) ∧ ∀ x, w = some x → inR m x
  | .give t, _ => inR m t
  | .back t, _ => inR m t
  | .rnd a, d + 1 => okL m a d ∧ a.len ≤ 16
  | .eit a b, d + 1 => (okL m a d ∧ a.len ≤ 16) ∧ okL m b d ∧ b.len ≤ 16
  | .rnd _, 0 => False
  | .eit _ _, 0 => False
def okL (m : Int) : Its → Nat → Prop
  | .nil, _ => True
  | .cons x r, d => okI m x d ∧ okL m r d
end
theorem okL_snoc {m : Int} {x : It} {d : Nat} (h : okI m x d) : ∀ {a : Its}, okL m a d → okL m (a.snoc x) d
  | .nil, _ => ⟨h, trivial⟩
  | .cons y r, q => ⟨q.1, okL_snoc h q.2⟩
/-! ### the state of a draw -/
def stL (m w g d t l : O) : List (Key × O) := [(.inr "many", m), (.inr "written", w), (.inr "given", g), (.inr "depth", d), (.inr "top", t), (.inr "left", l)]
section
variable {m w g d t l o : O}
theorem lkN {x y : Str} {o : O} {r : List (Key × O)} (h : x ≠ y) : lk ((.inr x, o) :: r) (.inr y) = lk r (.inr y) := lk_neg fun e => h (Sum.inr.inj e)
theorem sON {x y : Str} {o o1 : O} {r : List (Key × O)} (h : x ≠ y) : setO ((.inr x, o1) :: r) (.inr y) o = (.inr x, o1) :: setO r (.inr y) o := setO_neg fun e => h (Sum.inr.inj e)
@[simp] theorem st_m : lk (stL m w g d t l) (.inr "many") = some m := lk_pos rfl
@[simp] theorem st_w : lk (stL m w g d t l) (.inr "written") = some w := (lkN (by decide)).trans (lk_pos rfl)
@[simp] theorem st_g : lk (stL m w g d t l) (.inr "given") = some g := (lkN (by decide)).trans ((lkN (by decide)).trans (lk_pos rfl))
@[simp] theorem st_d : lk (stL m w g d t l) (.inr "depth") = some d := (lkN (by decide)).trans ((lkN (by decide)).trans ((lkN (by decide)).trans (lk_pos rfl)))
@[simp] theorem st_t : lk (stL m w g d t l) (.inr "top") = some t := (lkN (by decide)).trans ((lkN (by decide)).trans ((lkN (by decide)).trans ((lkN (by decide)).trans (lk_pos rfl))))
@[simp] theorem st_l : lk (stL m w g d t l) (.inr "left") = some l := (lkN (by decide)).trans ((lkN (by decide)).trans ((lkN (by decide)).trans ((lkN (by decide)).trans ((lkN (by decide)).trans (lk_pos rfl)))))
@[simp] theorem so_w : setO (stL m w g d t l) (.inr "written") o = stL m o g d t l := by
  unfold stL
  rw [sON (by decide), setO_pos rfl]
@[simp] theorem so_g : setO (stL m w g d t l) (.inr "given") o = stL m w o d t l := by
  unfold stL
  rw [sON (by decide), sON (by decide), setO_pos rfl]
@[simp] theorem so_l : setO (stL m w g d t l) (.inr "left") o = stL m w g d t o := by
  unfold stL
  rw [sON (by decide), sON (by decide), sON (by decide), sON (by decide), sON (by decide), setO_pos rfl]
@[simp] theorem po_w : putO (stL m w g d t l) (.inr "written") o = stL m o g d t l := by
  unfold putO
  rw [st_w]
  exact so_w
@[simp] theorem po_l : putO (stL m w g d t l) (.inr "left") o = stL m w g d t o := by
  unfold putO
  rw [st_l]
  exact so_l
@[simp] theorem st_nd : ((stL m w g d t l).map (·.1)).Nodup := by
  show ([.inr "many", .inr "written", .inr "given", .inr "depth", .inr "top", .inr "left"] : List Key).Nodup
  decide
@[simp] theorem st_len : (stL m w g d t l).length = 6 := rfl
end
@[simp] theorem qVar_ndc {kvs : List (Key × O)} {ρ : List O} : qVar 0 (.ndc kvs :: ρ) = some (.ndc kvs) := rfl
theorem six_lt : 6 < sizeLine := by unfold sizeLine; decide
@[simp] theorem tEnt_st {m w g d t l o x : O} {z : Str} {ρ : List O} : tEnt 1 z o (x :: .ndc (stL m w g d t l) :: ρ) = some (x :: .ndc (putO (stL m w g d t l) (.inr z) o) :: ρ) := tEnt_eq rfl st_nd six_lt
def addW (W : List Int) : Option Int → List Int
  | none => W
  | some x => if x ∈ W then W else W ++ [x]
theorem addW_ok {m : Int} {W : List Int} {w : Option Int} (h : okW m W) (hw : ∀ x, w = some x → inR m x) : okW m (addW W w) := by
  cases w with
  | none => exact h
  | some x =>
    unfold addW
    by_cases c : x ∈ W
    · simp only [if_pos c]; exact h
    · simp only [if_neg c]; exact h.snoc c (hw x rfl)
theorem map_lt {l : List Int} {n : Nat} (h : l.length ≤ n) (hn : n < 16777216) : (l.map PyData.int).length < sizeLine := by
  rw [List.length_map]
  unfold sizeLine
  omega
theorem eraseIdx_mp {α β : Type} {f : α → β} : ∀ {l : List α} {i : Nat}, (l.map f).eraseIdx i = (l.eraseIdx i).map f
  | [], _ => rfl
  | _ :: _, 0 => rfl
  | x :: r, i + 1 => by rw [List.map_cons, List.eraseIdx_cons_succ, List.eraseIdx_cons_succ, List.map_cons, eraseIdx_mp]
def rowV (s m : Int) (W : List Int) (n : Nat) (g d t l : O) (i : Nat) (ρ : List O) : Prop := ∃ (a c : Int) (L R : List Int) (x4 : O), ρ = [.lst [.int a, .int s, .int c], .ndc (stL (.fz (.int m)) (.lst (W.map .int)) g d t l), .lst (L.map .int), .lst (R.map .int), x4, .dead] ∧ 0 ≤ a ∧ 0 ≤ c ∧ c ≤ ((n + 1 + i : Nat) : Int) ∧ L.length + i = W.length ∧ R.length = i ∧ (∀ x ∈ L, x ∈ W) ∧ ∀ x ∈ R, x ∈ W
theorem row_spec {a s c m : Int} {n : Nat} {W : List Int} {g d t l : O} {Q : O → List O → Prop} (ha : 0 ≤ a) (hs : 0 ≤ s) (hs2 : s < 2 ^ 62) (hc : 0 ≤ c) (hc2 : c ≤ n) (hn : n < 2 ^ 39) (hm : 0 ≤ m) (hm2 : m ≤ 20) (hW : okW m W)
    (h : ∀ rs w a' c', okI m (.row rs w) 0 → 0 ≤ a' → 0 ≤ c' → c' ≤ ((n + 6 : Nat) : Int) → Q (.fz (pdI (.row rs w))) [.lst [.int a', .int s, .int c'], .ndc (stL (.fz (.int m)) (.lst ((addW W w).map .int)) g d t l)]) :
    wF (f__law_row [.lst [.int a, .int s, .int c], .ndc (stL (.fz (.int m)) (.lst (W.map .int)) g d t l)]) Q := by
  have hl := hW.len
  unfold f__law_row m__law_row
  rw [wF_defN, wS_seq]
  simp
  rw [wS_seq]
  simp
  refine draw_spec ha hs hs2 hc hc2 (by omega) (by decide) (by decide) fun k a1 c1 k0 k1 ha1 hc1 hc1' => ?_
  have hb : big62 (if k < (W.length : Int) then k else (W.length : Int)) = true := by unfold big62; simp; split <;> omega
  simp [hb]
  refine wS_forI (rowV s m W n g d t l) ⟨a1, c1, W, [], _, rfl, ha1, hc1, by omega, by omega, rfl, fun _ z => z, fun _ z => by cases z⟩ ?_ ?_
  · rintro i x ρ ex ⟨a2, c2, L, R, x4, rfl, ha2, hc2, hc2', e1, e2, e3, e4⟩
    obtain ⟨rfl, hi⟩ := rngD_at ex
    have hL : 0 < L.length := by
      split at hi <;> omega
    refine ⟨_, rfl, ?_⟩
    simp
    refine draw_spec ha2 hs hs2 hc2 hc2' (by split at hi <;> omega) (by omega) (by omega) fun r a3 c3 r0 r1 ha3 hc3 hc3' => ?_
    obtain ⟨z, ez, ep⟩ := fPopAt_i (ds := L.map .int) (r := r) r0 (by simpa using r1) (by simp; omega)
    rw [List.getElem?_map] at ez
    obtain ⟨y, ey, rfl⟩ := Option.map_eq_some_iff.mp ez
    have ap : fAppend (R.map .int) [.int y] = some (.none, R.map .int ++ [.int y]) := fAppend_eq (map_lt (n := 24) (by omega) (by decide))
    have hmem : y ∈ L := List.mem_of_getElem? ey
    simp [ep, ap]
    refine ⟨a3, c3, L.eraseIdx r.toNat, R ++ [y], _, by rw [eraseIdx_mp, List.map_append]; rfl, ha3, hc3, by omega, ?_, by simp [e2], fun x hx => e3 x (List.mem_of_mem_eraseIdx hx), fun x hx => ?_⟩
    · rw [List.length_eraseIdx_of_lt (by omega)]
      omega
    · rcases List.mem_append.mp hx with q | q
      · exact e4 x q
      · rw [List.mem_singleton.mp q]; exact e3 y hmem
  · rintro ρ ⟨a2, c2, L, R, x4, rfl, ha2, hc2, hc2', e1, e2, e3, e4⟩
    have hR : R.length ≤ 3 := by
      rw [e2, rngD_len]
      split <;> omega
    have hcn : c2 ≤ ((n + 4 : Nat) : Int) := by omega
    have hrs : ∀ x ∈ R, inR m x := fun x hx => hW.2 x (e4 x hx)
    have fin : ∀ (w : Option Int) (a3 c3 : Int), (∀ x, w = some x → inR m x) → 0 ≤ a3 → 0 ≤ c3 → c3 ≤ ((n + 6 : Nat) : Int) → Q (.fz (.tuple [.str "row", .tuple (R.map .int), wD w])) [.lst [.int a3, .int s, .int c3], .ndc (stL (.fz (.int m)) (.lst ((addW W w).map .int)) g d t l)] := fun w a3 c3 hw q1 q2 q3 => h R w a3 c3 ⟨by omega, hrs, hw⟩ q1 q2 q3
    rw [wS_seq]
    by_cases hm0 : 0 < m
    · simp [hm0]
      refine draw_spec ha2 hs hs2 hc2 hcn (by omega) (by decide) (by decide) fun r a3 c3 r0 r1 ha3 hc3 hc3' => ?_
      refine ⟨_, rfl, ?_⟩
      by_cases hr : 0 < r
      · simp [hr]
        refine draw_spec ha3 hs hs2 hc3 hc3' (by omega) hm0 (by omega) fun w a4 c4 w0 w1 ha4 hc4 hc4' => ?_
        have f2 := fin (some w) a4 c4 (fun x e => by cases e; exact ⟨w0, w1⟩) ha4 hc4 (by omega)
        simp
        rw [wS_seq]
        by_cases hw : w ∈ W
        · have e5 : oNin (.fz (.int w)) (.lst (W.map .int)) = some (.fz (.bool false)) := by rw [oNin_il]; simp [hw]
          simp [e5, sizeLine]
          simpa [addW, hw, wD] using f2
        · have e5 : oNin (.fz (.int w)) (.lst (W.map .int)) = some (.fz (.bool true)) := by rw [oNin_il]; simp [hw]
          have ap : fAppend (W.map .int) [.int w] = some (.none, W.map .int ++ [.int w]) := fAppend_eq (map_lt (n := 24) (by omega) (by decide))
          simp [e5, ap, sizeLine]
          simpa [addW, hw, wD] using f2
      · simp [hr]
        have f2 := fin none a3 c3 (fun x e => by cases e) ha3 hc3 (by omega)
        rw [wS_seq]
        simp [sizeLine]
        simpa [addW, wD] using f2
    · simp [hm0]
      have f2 := fin none a2 c2 (fun x e => by cases e) ha2 hc2 (by omega)
      rw [wS_seq]
      simp [sizeLine]
      simpa [addW, wD] using f2
end FM
namespace FM
open PySem PySem.Spec L2 PyProof.Rows
mutual
def ndI : It → Nat
  | .row _ _ => 1
  | .give _ => 1
  | .back _ => 1
  | .rnd a => 1 + ndL a
  | .eit a b => 1 + ndL a + ndL b
def ndL : Its → Nat
  | .nil => 0
  | .cons x r => ndI x + ndL r
end
theorem nd_snoc {x : It} : ∀ {a : Its}, ndL (a.snoc x) = ndL a + ndI x
  | .nil => by
    show ndI x + 0 = 0 + ndI x
    omega
  | .cons y r => by
    have := nd_snoc (x := x) (a := r)
    show ndI y + ndL (r.snoc x) = ndI y + ndL r + ndI x
    omega
def cL : Nat → Nat
  | 0 => 16
  | d + 1 => 16 + 16 * cL d
abbrev tpD (a s c : Int) : O := .lst [.int a, .int s, .int c]
abbrev stD (m : Int) (W G : List Int) (dep : Int) (top : Bool) (l : Int) : O := .ndc (stL (.fz (.int m)) (.lst (W.map .int)) (.lst (G.map .int)) (.fz (.int dep)) (.fz (.bool top)) (.fz (.int l)))
structure Pre (a s c m dep l : Int) (n B : Nat) (W G : List Int) : Prop where
  ha : 0 ≤ a
  hs : 0 ≤ s
  hs2 : s < 2 ^ 62
  hc : 0 ≤ c
  hc2 : c ≤ n
  hl : -(n : Int) ≤ l
  hl2 : l ≤ 100
  hn : n + B < 2 ^ 39
  hm : 0 ≤ m
  hm2 : m ≤ 20
  hW : okW m W
  hG : okW m G
structure Post (a c m l l0 : Int) (n B : Nat) (W G G0 : List Int) (same : Prop) : Prop where
  ha : 0 ≤ a
  hc : 0 ≤ c
  hc2 : c ≤ ((n + B : Nat) : Int)
  hl : -((n + B : Nat) : Int) ≤ l
  hl2 : l ≤ l0
  hW : okW m W
  hG : okW m G
  hs : same → ∀ x, G.count x = G0.count x
def SpecItems (F : List O → FR) (d : Nat) : Prop := ∀ (a s c m dep l : Int) (n : Nat) (W G : List Int) (top : Bool) (Q : O → List O → Prop), Pre a s c m dep l n (100 ^ (d + 1)) W G → (d : Int) ≤ dep →
  (∀ its a' c' W' G' l', okL m its d → its.len ≤ 16 → Post a' c' m l' l n (100 ^ (d + 1)) W' G' G ((d : Int) < dep ∨ top = false) → (ndL its : Int) ≤ l - l' → min l 0 - (cL d : Int) ≤ l' → Q (.fz (.tuple (pdL its))) [tpD a' s c', stD m W' G' dep top l', .dead]) →
  wF (F [tpD a s c, stD m W G dep top l, .fz (.int (d : Int))]) Q
def SpecParted (F : List O → FR) (d E : Nat) : Prop := ∀ (a s c m dep l : Int) (n : Nat) (W G : List Int) (top : Bool) (Q : O → List O → Prop), Pre a s c m dep l n (2 * 100 ^ d + 2) W G → (d : Int) ≤ dep →
  (∀ it a' c' W' G' l', okI m it d → Post a' c' m l' l n (2 * 100 ^ d + 2) W' G' G True → (ndI it : Int) ≤ l - l' + 1 → min l 0 - 2 * (E : Int) ≤ l' → Q (.fz (pdI it)) [tpD a' s c', stD m W' G' dep top l', .dead]) →
  wF (F [tpD a s c, stD m W G dep top l, .fz (.int (d : Int))]) Q
theorem parted_spec {rp ri : List O → FR} {d : Nat} (hi : SpecItems ri d) : SpecParted (defN 5 [true, true, false] (m__law_parted rp ri)) (d + 1) (cL d) := by
  intro a s c m dep l n W G top Q P hdep h
  have hd1 : ((d + 1 : Nat) : Int) - 1 = (d : Int) := by omega
  have hWl := P.hW.len
  have hm2 := P.hm2
  generalize hB : 100 ^ (d + 1) = B at *
  unfold m__law_parted
  rw [wF_defN, wS_seq]
  simp
  rw [wS_seq]
  simp [hd1]
  refine hi a s c m dep l n W G top _ ⟨P.ha, P.hs, P.hs2, P.hc, P.hc2, P.hl, P.hl2, by rw [hB]; have := P.hn; omega, P.hm, P.hm2, P.hW, P.hG⟩ (by omega) fun its a1 c1 W1 G1 l1 ok1 le1 p1 nd1 lo1 => ?_
  rw [hB] at p1
  simp
  rw [wS_seq]
  simp
  refine draw_spec p1.ha P.hs P.hs2 p1.hc p1.hc2 (by have := P.hn; omega) (by decide) (by decide) fun r a2 c2 r0 r1 ha2 hc2 hc2' => ?_
  have same1 := p1.hs (.inl (by omega))
  by_cases hr : r = 0
  · simp [hr]
    rw [wS_seq]
    simp [sizeLine]
    refine h (.rnd its) a2 c2 W G1 l1 ⟨ok1, le1⟩ ⟨ha2, hc2, by omega, by have := p1.hl; omega, p1.hl2, P.hW, p1.hG, fun _ => same1⟩ (by simp only [ndI]; omega) (by omega)
  · simp [hr]
    rw [wS_seq]
    simp [sizeLine]
    rw [wS_seq]
    simp [hd1]
    refine hi a2 s c2 m dep l1 (n + B + 1) W G1 top _ ⟨ha2, P.hs, P.hs2, hc2, hc2', by have := p1.hl; omega, by have := p1.hl2; have := P.hl2; omega, by rw [hB]; have := P.hn; omega, P.hm, P.hm2, P.hW, p1.hG⟩ (by omega) fun its2 a3 c3 W3 G3 l3 ok3 le3 p3 nd3 lo3 => ?_
    rw [hB] at p3
    have same3 := p3.hs (.inl (by omega))
    have hW1 := p1.hW.len
    have lc : ∀ x2 : O, lcGo (fName 7) (qB (qOp oIn (qVar 7) (qOp oIx (qVar 1) (qC (.str "written"))))) (qVar 7) [tpD a3 s c3, stD m W3 G3 dep top l3, x2, .lst (W.map .int), .fz (.tuple (pdL its)), .lst (W1.map .int), .fz (.tuple (pdL its2)), .dead] (W1.map .int) = some ((W1.filter fun x => decide (x ∈ W3)).map .int) := by
      intro x2
      refine lcGo_ints fun x hx => ⟨_, rfl, ?_, fun _ => by simp⟩
      simp [oIn_il]
    have hz : W1.length ≤ 16777216 := by omega
    simp
    rw [wS_seq]
    simp [lc, hz, sizeLine]
    refine h (.eit its its2) a3 c3 (W1.filter fun x => decide (x ∈ W3)) G3 l3 ⟨⟨ok1, le1⟩, ok3, le3⟩ ⟨p3.ha, p3.hc, by have := p3.hc2; omega, by have := p3.hl; omega, by have := p3.hl2; have := p1.hl2; omega, p1.hW.sub List.filter_sublist, p3.hG, fun _ x => by rw [same3, same1]⟩ (by simp only [ndI]; omega) (by omega)
end FM
namespace FM
open PySem PySem.Spec L2 PyProof.Rows
structure Mid (a c m l l0 : Int) (n i S E : Nat) (W G G0 held : List Int) (its : Its) (d : Nat) : Prop where
  ha : 0 ≤ a
  hc : 0 ≤ c
  hc2 : c ≤ ((n + 1 + i * S : Nat) : Int)
  hl : -((n + 1 + i * S : Nat) : Int) ≤ l
  hl2 : l ≤ l0
  hW : okW m W
  hG : okW m G
  hs : ∀ x, G.count x = G0.count x + held.count x
  ok : okL m its d
  len : its.len + held.length ≤ 2 * i
  nd : (ndL its : Int) + held.length ≤ l0 - l
  lo : min l0 0 - ((i * E : Nat) : Int) ≤ l
theorem okI_row {m : Int} {rs : List Int} {w : Option Int} : ∀ {d : Nat}, okI m (.row rs w) 0 → okI m (.row rs w) d
  | 0, h => h
  | _ + 1, h => h
theorem okI_give {m t : Int} : ∀ {d : Nat}, inR m t → okI m (.give t) d
  | 0, h => h
  | _ + 1, h => h
theorem okI_back {m t : Int} : ∀ {d : Nat}, inR m t → okI m (.back t) d
  | 0, h => h
  | _ + 1, h => h
theorem count_snoc {x y : Int} {l : List Int} : (l ++ [y]).count x = l.count x + (if y = x then 1 else 0) := by
  rw [List.count_append, List.count_cons, List.count_nil]
  by_cases h : y = x <;> simp [h]
def itV (s m dep l dI : Int) (top : Bool) (n S E : Nat) (G : List Int) (d i : Nat) (ρ : List O) : Prop := ∃ (a c l2 : Int) (its : Its) (held W2 G2 : List Int) (x5 x6 x7 : O), ρ = [tpD a s c, stD m W2 G2 dep top l2, .fz (.int dI), .lst (pdL its), .lst (held.map .int), x5, x6, x7, .dead] ∧ Mid a c m l2 l n i S E W2 G2 G held its d
def itW (a s c m dep l dI lz : Int) (top : Bool) (W G : List Int) (d : Nat) (x5 x6 x7 : O) (k : Nat) (ρ : List O) : Prop := ∃ (its : Its) (held G2 : List Int), ρ = [tpD a s c, stD m W G2 dep top l, .fz (.int dI), .lst (pdL its), .lst (held.map .int), x5, x6, x7, .dead] ∧ held.length = k ∧ its.len + held.length ≤ 16 ∧ okL m its d ∧ okW m G2 ∧ (∀ x, G2.count x = G.count x + held.count x) ∧ (ndL its : Int) + held.length ≤ lz - l
theorem oNe_00 : oNe (.fz (.list [])) (.fz (.list [])) = some (.fz (.bool false)) := oNe_ints (l := []) (r := []) rfl rfl
theorem oNe_0l : oNe (.lst []) (.fz (.list [])) = some (.fz (.bool false)) := oNe_ints (l := []) (r := []) rfl rfl
theorem items_spec {rp ri : List O → FR} {d : Nat} (hp : ∀ d', d = d' + 1 → SpecParted rp d (cL d')) : SpecItems (defN 6 [true, true, false] (m__law_items rp ri)) d := by
  intro a s c m dep l n W G top Q P hdep h
  have hm2 := P.hm2
  have hn := P.hn
  have hl2 := P.hl2
  have hl := P.hl
  obtain ⟨S, hS⟩ : ∃ S, S = 10 + 2 * 100 ^ d := ⟨_, rfl⟩
  have hT : 1 ≤ 100 ^ d := Nat.pow_pos (by decide)
  have hB : 100 ^ (d + 1) = 100 * 100 ^ d := by rw [Nat.pow_succ]; omega
  have hSB : 8 * S + 1 ≤ 100 ^ (d + 1) := by omega
  obtain ⟨v, ev, v0, v1⟩ : ∃ v : Int, atI [PyData.int 4, PyData.int 6, PyData.int 9] (if (d : Int) < 2 then (d : Int) else 2) = some (.int v) ∧ 0 < v ∧ v ≤ 9 := by
    match d with
    | 0 => exact ⟨4, rfl, by decide, by decide⟩
    | 1 => exact ⟨6, rfl, by decide, by decide⟩
    | d + 2 =>
      refine ⟨9, ?_, by decide, by decide⟩
      rw [if_neg (by omega)]
      rfl
  obtain ⟨E, hE8, hE2, hp'⟩ : ∃ E, cL d = 8 * E ∧ 2 ≤ E ∧ (0 < (d : Int) → ∃ E', SpecParted rp d E' ∧ E = 2 + 2 * E') := by
    cases d with
    | zero => exact ⟨2, rfl, by decide, fun z => by omega⟩
    | succ d => exact ⟨2 + 2 * cL d, by simp only [cL]; omega, by omega, fun _ => ⟨cL d, hp d rfl, rfl⟩⟩
  unfold m__law_items
  rw [wF_defN, wS_seq]
  simp
  rw [wS_seq]
  generalize hdI : (d : Int) = dI at *
  simp [ev, sizeLine]
  refine draw_spec P.ha P.hs P.hs2 P.hc P.hc2 (by omega) v0 (by omega) fun r a1 c1 r0 r1 ha1 hc1 hc1' => ?_
  have hb : big62 (if l < r then l else r) = true := by unfold big62; simp; split <;> omega
  simp [hb]
  have hcnt : (if l < r then l else r).toNat ≤ 8 := by split <;> omega
  refine wS_forI (itV s m dep l dI top n S E G d)
    ⟨a1, c1, l, .nil, [], W, G, _, _, _, rfl, ⟨ha1, hc1, by omega, by omega, Int.le_refl _, P.hW, P.hG, fun x => by simp, trivial, by simp [Its.len], by simp [ndL], by rw [Nat.zero_mul]; omega⟩⟩ ?_ ?_
  · rintro i x ρ ex ⟨a2, c2, l2, its, held, W2, G2, x5, x6, x7, rfl, M⟩
    obtain ⟨rfl, hi⟩ := rngD_at ex
    have hi8 : i < 8 := by omega
    have hiS : i * S + S ≤ 8 * S := by
      have := Nat.mul_le_mul_right S (show i + 1 ≤ 8 by omega)
      rw [Nat.add_mul] at this
      omega
    have hiS2 : (i + 1) * S = i * S + S := by rw [Nat.add_mul]; omega
    have hiE2 : (i + 1) * E = i * E + E := by rw [Nat.add_mul]; omega
    have hMnd := M.nd
    have hMlo := M.lo
    have hWl := M.hW.len
    have hGl := M.hG.len
    have hlen := M.len
    have hMl := M.hl
    have hMl2 := M.hl2
    refine ⟨_, rfl, ?_⟩
    rw [wS_seq]
    simp
    refine draw_spec M.ha P.hs P.hs2 M.hc M.hc2 (by omega) (by decide) (by decide) fun way a3 c3 w0 w1 ha3 hc3 hc3' => ?_
    have lc : lcGo (fName 8) (qB (qOp oNin (qVar 8) (qOp oIx (qVar 1) (qC (.str "given"))))) (qVar 8) [tpD a3 s c3, stD m W2 G2 dep top (l2 - 1), .fz (.int dI), .lst (pdL its), .lst (held.map .int), .fz (.int (i : Int)), .fz (.int way), x7, .dead] (W2.map .int) = some ((W2.filter fun x => !decide (x ∈ G2)).map .int) := by
      refine lcGo_ints fun x hx => ⟨_, rfl, ?_, fun _ => by simp⟩
      simp [oNin_il]
    have hz : W2.length ≤ 16777216 := by omega
    simp [sizeLine]
    rw [wS_seq]
    simp [lc, hz, sizeLine]
    obtain ⟨FR, hFR⟩ : ∃ FR, FR = W2.filter fun x => !decide (x ∈ G2) := ⟨_, rfl⟩
    have hFRm : ∀ x ∈ FR, x ∈ W2 ∧ x ∉ G2 := fun x hx => by
      rw [hFR] at hx
      have := List.mem_filter.mp hx
      exact ⟨this.1, by simpa using this.2⟩
    have hFRl : FR.length ≤ W2.length := by rw [hFR]; exact List.length_filter_le _ _
    rw [← hFR]
    have e1 : oNe (.fz (.list (FR.map .int))) (.fz (.list [])) = some (.fz (.bool (!decide (FR = [])))) := oNe_ints (r := []) rfl rfl
    have e2 : oNe (.lst (held.map .int)) (.fz (.list [])) = some (.fz (.bool (!decide (held = [])))) := oNe_ints (r := []) rfl rfl
    have e3 : oIn (.fz (.int way)) (.fz (.tuple [.int 2, .int 3])) = some (.fz (.bool (decide (way ∈ [2, 3])))) := oIn_intt (l := [2, 3])
    have hpl : (pdL its).length < sizeLine := by rw [pdL_len]; unfold sizeLine; omega
    have hhl : (held.map PyData.int).length < sizeLine := map_lt (n := 24) (by omega) (by decide)
    have hgl : (G2.map PyData.int).length < sizeLine := map_lt (n := 24) (by omega) (by decide)
    by_cases h0 : way = 0 ∧ FR ≠ []
    · obtain ⟨rfl, hF⟩ := h0
      have hF0 : 0 < FR.length := List.length_pos_iff.mpr hF
      simp [e1, hF]
      rw [wS_seq]
      simp
      refine draw_spec ha3 P.hs P.hs2 hc3 hc3' (by omega) (by omega) (by omega) fun r2 a4 c4 r20 r21 ha4 hc4 hc4' => ?_
      have hr2 : r2.toNat < FR.length := by omega
      obtain ⟨y, ey⟩ : ∃ y, FR[r2.toNat]? = some y := ⟨_, List.getElem?_eq_getElem hr2⟩
      have eat : atI (FR.map PyData.int) r2 = some (.int y) := by rw [atI_nn r20, List.getElem?_map, ey]; rfl
      have hy := hFRm y (List.mem_of_getElem? ey)
      have ap1 : fAppend (held.map .int) [.int y] = some (.none, held.map .int ++ [.int y]) := fAppend_eq hhl
      have ap2 : fAppend (G2.map .int) [.int y] = some (.none, G2.map .int ++ [.int y]) := fAppend_eq hgl
      have ap3 : fAppend (pdL its) [.tuple [.str "give", .int y]] = some (.none, pdL its ++ [.tuple [.str "give", .int y]]) := fAppend_eq hpl
      simp [eat, ap1]
      rw [wS_seq]
      simp
      rw [wS_seq]
      simp [ap2, ap3, sizeLine]
      refine ⟨a4, c4, l2 - 1 - 1, its.snoc (.give y), held ++ [y], W2, G2 ++ [y], .fz (.int (i : Int)), .fz (.int 0), .fz (.list (FR.map .int)), by simp [pdL_snoc, pdI], ⟨ha4, hc4, by rw [hiS2]; omega, by rw [hiS2]; omega, by omega, M.hW, M.hG.snoc hy.2 (M.hW.2 y hy.1), fun x => by rw [count_snoc, count_snoc, M.hs x]; omega, okL_snoc (okI_give (M.hW.2 y hy.1)) M.ok, by rw [len_snoc, List.length_append, List.length_singleton]; omega, by rw [nd_snoc, List.length_append, List.length_singleton]; simp only [ndI]; omega, by rw [hiE2]; omega⟩⟩
    · have c1 : ¬ (way = 0 ∧ FR ≠ []) := h0
      by_cases h1 : way = 1 ∧ held ≠ []
      · obtain ⟨rfl, hH⟩ := h1
        have hH0 : 0 < held.length := List.length_pos_iff.mpr hH
        simp [e1, e2, hH]
        rw [wS_seq]
        simp
        refine draw_spec ha3 P.hs P.hs2 hc3 hc3' (by omega) (by omega) (by omega) fun r2 a4 c4 r20 r21 ha4 hc4 hc4' => ?_
        obtain ⟨z, ez, ep⟩ := fPopAt_i (ds := held.map .int) (r := r2) r20 (by simpa using r21) (by simp; omega)
        rw [List.getElem?_map] at ez
        obtain ⟨y, ey, rfl⟩ := Option.map_eq_some_iff.mp ez
        have hcnt2 := fun x => erase_count (x := x) ey
        have hyG : y ∈ G2 := by
          have := hcnt2 y
          have h2 := M.hs y
          rw [if_pos rfl] at this
          exact List.count_pos_iff.mp (by omega)
        obtain ⟨j, ej⟩ := fstAt_some hyG
        have hj := (fstAt_is ej).1
        have hcnt3 := fun x => erase_count (x := x) hj
        have ap3 : fAppend (pdL its) [.tuple [.str "back", .int y]] = some (.none, pdL its ++ [.tuple [.str "back", .int y]]) := fAppend_eq hpl
        have hle : (held.eraseIdx r2.toNat).length + 1 = held.length := by rw [List.length_eraseIdx_of_lt (by omega)]; omega
        simp [ep, ap3, ej, sizeLine]
        refine ⟨a4, c4, l2 - 1, its.snoc (.back y), held.eraseIdx r2.toNat, W2, G2.eraseIdx j, .fz (.int (i : Int)), .fz (.int 1), .fz (.list (FR.map .int)), by simp [pdL_snoc, pdI, eraseIdx_mp], ⟨ha4, hc4, by rw [hiS2]; omega, by rw [hiS2]; omega, by omega, M.hW, M.hG.sub (List.eraseIdx_sublist _ _), fun x => by have := hcnt2 x; have := hcnt3 x; have := M.hs x; omega, okL_snoc (okI_back (M.hG.2 y hyG)) M.ok, by rw [len_snoc]; omega, by rw [nd_snoc]; simp only [ndI]; omega, by rw [hiE2]; omega⟩⟩
      · by_cases h2 : way ∈ [2, 3] ∧ 0 < dI
        · have w01 : way ≠ 0 ∧ way ≠ 1 := by
            have := h2.1
            simp at this
            omega
          simp [e1, e2, e3, h2.1, h2.2, w01.1, w01.2]
          rw [← hdI]
          obtain ⟨E', hpE, hEE⟩ := hp' h2.2
          refine hpE a3 s c3 m dep (l2 - 1) (n + 1 + i * S + 1) W2 G2 top _ ⟨ha3, P.hs, P.hs2, hc3, hc3', by omega, by omega, by omega, P.hm, hm2, M.hW, M.hG⟩ (by omega) fun it a4 c4 W4 G4 l4 ok4 p4 nd4 lo4 => ?_
          have ap3 : fAppend (pdL its) [pdI it] = some (.none, pdL its ++ [pdI it]) := fAppend_eq hpl
          have hp4l := p4.hl
          have hp4l2 := p4.hl2
          have hp4c := p4.hc2
          simp [ap3, hdI]
          refine ⟨a4, c4, l4, its.snoc it, held, W4, G4, _, _, _, by rw [pdL_snoc], ?_⟩
          · exact ⟨p4.ha, p4.hc, by rw [hiS2]; omega, by rw [hiS2]; omega, by omega, p4.hW, p4.hG, fun x => by rw [p4.hs trivial x, M.hs x], okL_snoc ok4 M.ok, by rw [len_snoc]; omega, by rw [nd_snoc]; omega, by rw [hiE2]; omega⟩
        · have hc1 : (decide (way = 0) && !decide (FR = [])) = false := by
            by_cases q1 : way = 0 <;> by_cases q2 : FR = [] <;> simp [q1, q2] at h0 ⊢
          have hc2 : (decide (way = 1) && !decide (held = [])) = false := by
            by_cases q1 : way = 1 <;> by_cases q2 : held = [] <;> simp [q1, q2] at h1 ⊢
          have hc3x : (decide (way ∈ [2, 3]) && decide (0 < dI)) = false := by
            by_cases q1 : way ∈ [2, 3] <;> by_cases q2 : 0 < dI <;> simp [q1, q2] at h2 ⊢
          have go : ∀ {Q' : O → List O → Prop}, (∀ rs w a' c', okI m (.row rs w) 0 → 0 ≤ a' → 0 ≤ c' → c' ≤ ((n + 1 + i * S + 1 + 6 : Nat) : Int) → Q' (.fz (pdI (.row rs w))) [.lst [.int a', .int s, .int c'], .ndc (stL (.fz (.int m)) (.lst ((addW W2 w).map .int)) (.lst (G2.map .int)) (.fz (.int dep)) (.fz (.bool top)) (.fz (.int (l2 - 1))))]) → wF (f__law_row [tpD a3 s c3, stD m W2 G2 dep top (l2 - 1)]) Q' := fun {Q'} hq => row_spec ha3 P.hs P.hs2 hc3 hc3' (by omega) P.hm hm2 M.hW hq
          have fin : ∀ rs w a' c', okI m (.row rs w) 0 → 0 ≤ a' → 0 ≤ c' → c' ≤ ((n + 1 + i * S + 1 + 6 : Nat) : Int) → Mid a' c' m (l2 - 1) l n (i + 1) S E (addW W2 w) G2 G held (its.snoc (.row rs w)) d := fun rs w a' c' q1 q2 q3 q4 =>
            ⟨q2, q3, by rw [hiS2]; omega, by rw [hiS2]; omega, by omega, addW_ok M.hW q1.2.2, M.hG, M.hs, okL_snoc (okI_row q1) M.ok, by rw [len_snoc]; omega, by rw [nd_snoc]; simp only [ndI]; omega, by rw [hiE2]; omega⟩
          have goal : wF (f__law_row [tpD a3 s c3, stD m W2 G2 dep top (l2 - 1)]) fun o outs => ∃ rs w a' c', okI m (.row rs w) 0 ∧ (0 ≤ a' ∧ 0 ≤ c' ∧ c' ≤ ((n + 1 + i * S + 1 + 6 : Nat) : Int)) ∧ o = .fz (pdI (.row rs w)) ∧ outs = [tpD a' s c', stD m (addW W2 w) G2 dep top (l2 - 1)] := go fun rs w a' c' q1 q2 q3 q4 => ⟨rs, w, a', c', q1, ⟨q2, q3, q4⟩, rfl, rfl⟩
          have w23 : (way = 0 ∧ FR = []) ∨ (way = 1 ∧ held = []) ∨ (way ≠ 0 ∧ way ≠ 1 ∧ way ∉ [2, 3]) ∨ (way ≠ 0 ∧ way ≠ 1 ∧ way ∈ [2, 3] ∧ ¬ 0 < dI) := by
            by_cases q1 : way = 0
            · exact .inl ⟨q1, Classical.byContradiction fun z => h0 ⟨q1, z⟩⟩
            · by_cases q2 : way = 1
              · exact .inr (.inl ⟨q2, Classical.byContradiction fun z => h1 ⟨q2, z⟩⟩)
              · by_cases q3 : way ∈ [2, 3]
                · exact .inr (.inr (.inr ⟨q1, q2, q3, fun z => h2 ⟨q3, z⟩⟩))
                · exact .inr (.inr (.inl ⟨q1, q2, q3⟩))
          rcases w23 with ⟨rfl, q⟩ | ⟨rfl, q⟩ | ⟨q1, q2, q3⟩ | ⟨q1, q2, q3, q4⟩
          · simp [e1, e2, e3, q, oNe_00, oNe_0l]
            refine wF_mono goal ?_
            rintro o outs ⟨rs, w, a', c', q1, ⟨q2, q3, q4⟩, rfl, rfl⟩
            have ap3 : fAppend (pdL its) [pdI (.row rs w)] = some (.none, pdL its ++ [pdI (.row rs w)]) := fAppend_eq hpl
            simp [ap3]
            exact ⟨a', c', l2 - 1, its.snoc (.row rs w), held, addW W2 w, G2, _, _, _, by rw [pdL_snoc], fin rs w a' c' q1 q2 q3 q4⟩
          · simp [e1, e2, e3, q, oNe_00, oNe_0l]
            refine wF_mono goal ?_
            rintro o outs ⟨rs, w, a', c', q1, ⟨q2, q3, q4⟩, rfl, rfl⟩
            have ap3 : fAppend (pdL its) [pdI (.row rs w)] = some (.none, pdL its ++ [pdI (.row rs w)]) := fAppend_eq hpl
            simp [ap3]
            refine ⟨a', c', l2 - 1, its.snoc (.row rs w), held, addW W2 w, G2, _, _, _, by rw [pdL_snoc, q]; rfl, fin rs w a' c' q1 q2 q3 q4⟩
          · simp [e1, e2, e3, q1, q2, q3]
            refine wF_mono goal ?_
            rintro o outs ⟨rs, w, a', c', q1, ⟨q2, q3, q4⟩, rfl, rfl⟩
            have ap3 : fAppend (pdL its) [pdI (.row rs w)] = some (.none, pdL its ++ [pdI (.row rs w)]) := fAppend_eq hpl
            simp [ap3]
            exact ⟨a', c', l2 - 1, its.snoc (.row rs w), held, addW W2 w, G2, _, _, _, by rw [pdL_snoc], fin rs w a' c' q1 q2 q3 q4⟩
          · simp [e1, e2, e3, q1, q2, q3, q4]
            refine wF_mono goal ?_
            rintro o outs ⟨rs, w, a', c', q1, ⟨q2, q3, q4⟩, rfl, rfl⟩
            have ap3 : fAppend (pdL its) [pdI (.row rs w)] = some (.none, pdL its ++ [pdI (.row rs w)]) := fAppend_eq hpl
            simp [ap3]
            exact ⟨a', c', l2 - 1, its.snoc (.row rs w), held, addW W2 w, G2, _, _, _, by rw [pdL_snoc], fin rs w a' c' q1 q2 q3 q4⟩
  · rintro ρ ⟨a2, c2, l2, its, held, W2, G2, x5, x6, x7, rfl, M⟩
    obtain ⟨i, hi, hi8⟩ : ∃ i, i = (rngD 0 (if l < r then l else r).toNat).length ∧ i ≤ 8 := ⟨_, rfl, by rw [rngD_len]; exact hcnt⟩
    rw [← hi] at M
    have hiS : i * S ≤ 8 * S := Nat.mul_le_mul_right S hi8
    have hMl := M.hl
    have hMl2 := M.hl2
    have hMc := M.hc2
    have hMlen := M.len
    have hMnd := M.nd
    have hMlo := M.lo
    have hiE : i * E ≤ 8 * E := Nat.mul_le_mul_right E hi8
    rw [wS_seq]
    refine wS_whileI (itW a2 s c2 m dep l2 dI l top W2 G d x5 x6 x7) held.length ⟨its, held, G2, rfl, rfl, by omega, M.ok, M.hG, M.hs, M.nd⟩ ?_
    rintro k ρ ⟨its, held, G2, rfl, hk, hl16, ok, hG2, hcn, hnd⟩
    have e2 : oNe (.lst (held.map .int)) (.fz (.list [])) = some (.fz (.bool (!decide (held = [])))) := oNe_ints (r := []) rfl rfl
    have fin : (dI < dep ∨ top = false → held = []) → Q (.fz (.tuple (pdL its))) [tpD a2 s c2, stD m W2 G2 dep top l2, .dead] := fun z => by
      refine h its a2 c2 W2 G2 l2 ok (by omega) ⟨M.ha, M.hc, by omega, by omega, hMl2, M.hW, hG2, fun q x => ?_⟩ ?_ ?_
      · rw [hcn x, z q]
        simp
      · omega
      · omega
    by_cases hh : held = []
    · subst hh
      rw [wM_bLift]
      refine ⟨false, by simp [oNe_0l], ⟨fun _ => ?_, fun z => by cases z⟩⟩
      simp
      exact fin fun _ => rfl
    · by_cases hd : dI < dep ∨ top = false
      · have hcond : (!top || decide (dI < dep)) = true := by
          rcases hd with z | z <;> simp [z]
        obtain ⟨H, y, rfl⟩ : ∃ H y, held = H ++ [y] := ⟨held.dropLast, held.getLast hh, (List.dropLast_concat_getLast hh).symm⟩
        have hyG : y ∈ G2 := by
          have h2 := hcn y
          rw [count_snoc, if_pos rfl] at h2
          exact List.count_pos_iff.mp (by omega)
        obtain ⟨j, ej⟩ := fstAt_some hyG
        have hj := (fstAt_is ej).1
        have hcnt3 := fun x => erase_count (x := x) hj
        have ap3 : fAppend (pdL its) [.tuple [.str "back", .int y]] = some (.none, pdL its ++ [.tuple [.str "back", .int y]]) := fAppend_eq (by rw [pdL_len]; rw [List.length_append] at hl16; unfold sizeLine; omega)
        have pp : fPop (H.map PyData.int ++ [PyData.int y]) [] = some (.int y, H.map .int) := fPop_snoc
        have hc2 : (top = false ∨ dI < dep) := hd.symm
        rw [wM_bLift]
        refine ⟨true, ?_, ⟨fun z => (by cases z), fun _ => ?_⟩⟩
        · cases top <;> simp [e2, hd] <;> simp_all
        · rw [wS_seq]
          simp [pp, ap3, ej, sizeLine]
          refine ⟨H.length, by rw [← hk, List.length_append]; simp, its.snoc (.back y), H, G2.eraseIdx j, by simp [pdL_snoc, pdI], rfl, by rw [len_snoc]; rw [List.length_append, List.length_singleton] at hl16; omega, okL_snoc (okI_back (hG2.2 y hyG)) ok, hG2.sub (List.eraseIdx_sublist _ _), fun x => by have := hcnt3 x; have h2 := hcn x; rw [count_snoc] at h2; omega, by rw [nd_snoc]; rw [List.length_append, List.length_singleton] at hnd; simp only [ndI]; omega⟩
      · have hndd : ¬ dI < dep := fun z => hd (.inl z)
        have htop : top = true := by
          cases top with
          | true => rfl
          | false => exact (hd (.inr rfl)).elim
        subst htop
        simp [e2, hh, hndd]
        exact fin fun z => (hd z).elim
end FM
namespace FM
open PySem PySem.Spec L2 PyProof.Rows
theorem grp_items : ∀ (d n : Nat), 2 * d + 1 ≤ n → SpecItems (grp__law_parted n 1) d
  | d, 0, h => by omega
  | 0, n + 1, h => items_spec (rp := grp__law_parted n 0) (ri := grp__law_parted n 1) fun d' e => by omega
  | d + 1, 1, h => by omega
  | d + 1, n + 2, h => items_spec (rp := grp__law_parted (n + 1) 0) (ri := grp__law_parted (n + 1) 1) fun d' e => by
    have e' : d' = d := by omega
    subst e'
    rw [e]
    exact parted_spec (rp := grp__law_parted n 0) (ri := grp__law_parted n 1) (grp_items d' n (by omega))
theorem disp_left {m w g d t l : O} : putO (koZ ["many", "written", "given", "depth", "top"] [m, w, g, d, t]) (.inr "left") l = stL m w g d t l := by
  have e : lk (koZ ["many", "written", "given", "depth", "top"] [m, w, g, d, t]) (.inr "left") = none := by
    show lk ([(Sum.inr "many", m), (Sum.inr "written", w), (Sum.inr "given", g), (Sum.inr "depth", d), (Sum.inr "top", t)] : List (Key × O)) (Sum.inr "left") = none
    rw [lkN (by decide), lkN (by decide), lkN (by decide), lkN (by decide), lkN (by decide)]
    rfl
  unfold putO
  rw [e]
  rfl
theorem koZ_nd {m w g d t : O} : ((koZ ["many", "written", "given", "depth", "top"] [m, w, g, d, t]).map (·.1)).Nodup := by
  show ([.inr "many", .inr "written", .inr "given", .inr "depth", .inr "top"] : List Key).Nodup
  decide
theorem koZ_len {m w g d t : O} : (koZ ["many", "written", "given", "depth", "top"] [m, w, g, d, t]).length = 5 := rfl
def prgD (ts : List (Int × Int)) (its : Its) : PD := .tuple [.tuple (ts.map thD), .tuple (pdL its)]
def okP' (ts : List (Int × Int)) (its : Its) (d : Nat) : Prop := okT ts ∧ okL ts.length its d ∧ d ≤ 3 ∧ its.len ≤ 24 ∧ ts.length ≤ 20
def okZ (its : Its) : Prop := ndL its ≤ 70000
theorem program_spec {a s c : Int} {n : Nat} {Q : O → List O → Prop} (ha : 0 ≤ a) (hs : 0 ≤ s) (hs2 : s < 2 ^ 62) (hc : 0 ≤ c) (hc2 : c ≤ n) (hn : n < 2 ^ 37)
    (h : ∀ ts its d a' c', okP' ts its d → okZ its → 0 ≤ a' → 0 ≤ c' → c' ≤ ((n + 200000000 : Nat) : Int) → Q (.fz (prgD ts its)) [.lst [.int a', .int s, .int c']]) : wF (f__law_program [.lst [.int a, .int s, .int c]]) Q := by
  unfold f__law_program m__law_program
  rw [wF_defN, wS_seq]
  simp
  refine draw_spec ha hs hs2 hc hc2 (by omega) (by decide) (by decide) fun r1 a1 c1 r10 r11 ha1 hc1 hc1' => ?_
  simp
  refine draw_spec ha1 hs hs2 hc1 hc1' (by omega) (by decide) (by decide) fun r2 a2 c2 r20 r21 ha2 hc2 hc2' => ?_
  simp
  refine draw_spec ha2 hs hs2 hc2 hc2' (by omega) (by decide) (by decide) fun r3 a3 c3 r30 r31 ha3 hc3 hc3' => ?_
  simp [sizeLine]
  refine draw_spec ha3 hs hs2 hc3 hc3' (by omega) (by decide) (by decide) fun r4 a4 c4 r40 r41 ha4 hc4 hc4' => ?_
  obtain ⟨m, m1, m2, m3⟩ := pickI (xs := [r1, 1 + r2, 7 + r3]) (lo := 0) (hi := 12) (i := r4) (by
    intro x hx
    simp at hx
    rcases hx with rfl | rfl | rfl <;> omega) r40 (by simpa using r41)
  simp only [List.map_cons, List.map_nil] at m3
  simp [m3]
  rw [wS_seq]
  simp
  refine draw_spec ha4 hs hs2 hc4 hc4' (by omega) (by decide) (by decide) fun r5 a5 c5 r50 r51 ha5 hc5 hc5' => ?_
  simp
  rw [wS_seq]
  simp
  refine draw_spec ha5 hs hs2 hc5 hc5' (by omega) (by decide) (by decide) fun r6 a6 c6 r60 r61 ha6 hc6 hc6' => ?_
  simp
  rw [wS_seq]
  simp [sizeLine]
  refine draw_spec ha6 hs hs2 hc6 hc6' (by omega) (by decide) (by decide) fun r7 a7 c7 r70 r71 ha7 hc7 hc7' => ?_
  obtain ⟨l, l1, l2, l3⟩ := pickI (xs := [12, 24, 30, 56]) (lo := 0) (hi := 56) (i := r7) (by
    intro x hx
    simp at hx
    rcases hx with rfl | rfl | rfl | rfl <;> omega) r70 (by simpa using r71)
  simp only [List.map_cons, List.map_nil] at l3
  simp [l3, disp_left, koZ_nd, koZ_len, sizeLine]
  rw [wS_seq]
  simp
  refine things_spec ha7 hs hs2 hc7 hc7' (by omega) m1 (by omega) fun ts a8 c8 ok8 len8 ha8 hc8 hc8' => ?_
  simp
  obtain ⟨d, hd, hd3⟩ : ∃ d : Nat, 1 + r5 = (d : Int) ∧ d ≤ 3 := ⟨(1 + r5).toNat, by omega, by omega⟩
  have hdn : 100 ^ (d + 1) ≤ 100000000 := Nat.pow_le_pow_right (by decide) (show d + 1 ≤ 4 by omega)
  rw [hd]
  refine grp_items d 45 (by omega) a8 s c8 m d l (n + 6008) [] [] (decide (r6 = 0)) _ ⟨ha8, hs, hs2, hc8, by omega, by omega, by omega, by omega, m1, by omega, okW_nil, okW_nil⟩ (Int.le_refl _) fun its a9 c9 W9 G9 l9 ok9 le9 p9 nd9 lo9 => ?_
  have p9c := p9.hc2
  have hlt : (ts.length : Int) = m := len8
  simp
  have hq := h ts its d a9 c9 ⟨ok8, by rw [hlt]; exact ok9, hd3, by omega, by omega⟩ (by
    have hc3 : cL d ≤ 69904 := by
      match d, hd3 with
      | 0, _ => decide
      | 1, _ => decide
      | 2, _ => decide
      | 3, _ => decide
    unfold okZ
    omega) p9.ha p9.hc (by omega)
  exact ⟨by unfold sizeLine; omega, hq⟩
end FM
namespace FM
open PySem PySem.Spec L2 PyProof.Rows
theorem sNe {a b : Str} (h : a ≠ b) : decide (a = b) = false := decide_eq_false h
@[simp] theorem s_rg : (("row" : Str) = "give") = False := eq_false (by decide)
@[simp] theorem s_rb : (("row" : Str) = "back") = False := eq_false (by decide)
@[simp] theorem s_re : (("row" : Str) = "either") = False := eq_false (by decide)
@[simp] theorem s_rr : (("row" : Str) = "round") = False := eq_false (by decide)
@[simp] theorem s_gb : (("give" : Str) = "back") = False := eq_false (by decide)
@[simp] theorem s_ge : (("give" : Str) = "either") = False := eq_false (by decide)
@[simp] theorem s_gr : (("give" : Str) = "round") = False := eq_false (by decide)
@[simp] theorem s_bg : (("back" : Str) = "give") = False := eq_false (by decide)
@[simp] theorem s_be : (("back" : Str) = "either") = False := eq_false (by decide)
@[simp] theorem s_br : (("back" : Str) = "round") = False := eq_false (by decide)
@[simp] theorem s_de : (("round" : Str) = "either") = False := eq_false (by decide)
theorem eqS {a b : Str} : oEq (.fz (.str a)) (.fz (.str b)) = some (.fz (.bool (decide (a = b)))) := rfl
/-! ### leaves -/
mutual
def lvI : It → List It
  | .row rs w => [.row rs w]
  | .give t => [.give t]
  | .back t => [.back t]
  | .rnd a => lvL a
  | .eit a b => lvL a ++ lvL b
def lvL : Its → List It
  | .nil => []
  | .cons x r => lvI x ++ lvL r
end
mutual
theorem lvI_len {m : Int} : ∀ {x : It} {d : Nat}, okI m x d → (lvI x).length ≤ 32 ^ d
  | .row _ _, d, _ => Nat.pow_pos (by decide)
  | .give _, d, _ => Nat.pow_pos (by decide)
  | .back _, d, _ => Nat.pow_pos (by decide)
  | .rnd a, d + 1, h => by
    have h1 := lvL_len (a := a) (d := d) h.1
    have h2 := Nat.mul_le_mul_right (32 ^ d) h.2
    rw [Nat.pow_succ]
    show (lvL a).length ≤ _
    omega
  | .eit a b, d + 1, h => by
    have h1 := lvL_len (a := a) (d := d) h.1.1
    have h2 := Nat.mul_le_mul_right (32 ^ d) h.1.2
    have h3 := lvL_len (a := b) (d := d) h.2.1
    have h4 := Nat.mul_le_mul_right (32 ^ d) h.2.2
    rw [Nat.pow_succ]
    show (lvL a ++ lvL b).length ≤ _
    rw [List.length_append]
    omega
  | .rnd _, 0, h => h.elim
  | .eit _ _, 0, h => h.elim
theorem lvL_len {m : Int} : ∀ {a : Its} {d : Nat}, okL m a d → (lvL a).length ≤ a.len * 32 ^ d
  | .nil, _, _ => Nat.zero_le _
  | .cons x r, d, h => by
    have h1 := lvI_len (x := x) h.1
    have h2 := lvL_len (a := r) h.2
    show (lvI x ++ lvL r).length ≤ (r.len + 1) * _
    rw [List.length_append, Nat.add_mul]
    omega
end
def lfI (m : Int) : It → Prop
  | .row rs w => rs.length ≤ 24 ∧ (∀ x ∈ rs, inR m x) ∧ ∀ x, w = some x → inR m x
  | .give t => inR m t
  | .back t => inR m t
  | _ => False
mutual
theorem lvI_ok {m : Int} : ∀ {x : It} {d : Nat}, okI m x d → ∀ y ∈ lvI x, lfI m y
  | .row rs w, 0, h, y, hy => by rw [List.mem_singleton.mp hy]; exact h
  | .row rs w, _ + 1, h, y, hy => by rw [List.mem_singleton.mp hy]; exact h
  | .give t, 0, h, y, hy => by rw [List.mem_singleton.mp hy]; exact h
  | .give t, _ + 1, h, y, hy => by rw [List.mem_singleton.mp hy]; exact h
  | .back t, 0, h, y, hy => by rw [List.mem_singleton.mp hy]; exact h
  | .back t, _ + 1, h, y, hy => by rw [List.mem_singleton.mp hy]; exact h
  | .rnd a, d + 1, h, y, hy => lvL_ok (a := a) h.1 y hy
  | .eit a b, d + 1, h, y, hy => (List.mem_append.mp hy).elim (lvL_ok (a := a) h.1.1 y) (lvL_ok (a := b) h.2.1 y)
  | .rnd _, 0, h, _, _ => h.elim
  | .eit _ _, 0, h, _, _ => h.elim
theorem lvL_ok {m : Int} : ∀ {a : Its} {d : Nat}, okL m a d → ∀ y ∈ lvL a, lfI m y
  | .nil, _, _, y, hy => by cases hy
  | .cons x r, d, h, y, hy => (List.mem_append.mp hy).elim (lvI_ok (x := x) h.1 y) (lvL_ok (a := r) h.2 y)
end
/-! ### the small functions -/
def rdI : It → List Int
  | .row rs _ => rs
  | .give t => [t]
  | _ => []
def wrI : It → Option Int
  | .row _ w => w
  | _ => none
def withI (l : List Int) (t : Int) : List Int := if t ∈ l then l else l ++ [t]
theorem oEq_N {d : PD} : oIsN (.fz d) (.fz .none) = some (.fz (.bool (match d with | .none => true | _ => false))) := by
  cases d <;> rfl
theorem q_reads {m : Int} {x : It} (h : lfI m x) : qOf f_reads_of [pdI x] = some (.tuple ((rdI x).map .int)) := by
  apply qof_of
  unfold f_reads_of m_reads_of
  cases x with
  | row rs w =>
    simp [pdI, rdI, eqS]
    rw [wS_seq]
    simp [eqS]
    rfl
  | give t =>
    simp [pdI, rdI, eqS]
    rw [wS_seq]
    simp [eqS, sizeLine]
  | back t =>
    simp [pdI, rdI, eqS]
    rw [wS_seq]
    simp [eqS]
  | _ => exact h.elim
theorem eqv_str {a b : Str} : PyData.eqv (.str a) (.str b) = decide (a = b) := by
  show (a == b) = decide (a = b)
  rw [Bool.eq_iff_iff]
  simp
theorem shaped_gb : SeqAt.shaped (.tuple [PyData.str "give", .str "back"]) = true := by decide +kernel
theorem oIn_gb {a : Str} (e2 : SeqAt.shaped (PyData.str a) = true) : oIn (.fz (.str a)) (.fz (.tuple [.str "give", .str "back"])) = some (.fz (.bool (decide (a = "give") || decide (a = "back")))) := by
  have e3 : ([PyData.str "give", PyData.str "back"].any fun z => PyData.eqv z (.str a)) = (decide (a = "give") || decide (a = "back")) := by
    simp [eqv_str, eq_comm]
  have e4 : bIn (.fz (.str a)) (.fz (.tuple [.str "give", .str "back"])) = some (decide (a = "give") || decide (a = "back")) := by
    rw [← e3]
    show (if (SeqAt.shaped (PyData.str a) && SeqAt.shaped (PyData.tuple [PyData.str "give", .str "back"])) = true then _ else _) = _
    rw [shaped_gb, e2]
    rfl
  unfold oIn
  rw [e4]
  rfl
theorem gb_row : oIn (.fz (.str "row")) (.fz (.tuple [.str "give", .str "back"])) = some (.fz (.bool false)) := by
  rw [oIn_gb (by decide +kernel)]
  simp
theorem gb_give : oIn (.fz (.str "give")) (.fz (.tuple [.str "give", .str "back"])) = some (.fz (.bool true)) := by
  rw [oIn_gb (by decide +kernel)]
  simp
theorem gb_back : oIn (.fz (.str "back")) (.fz (.tuple [.str "give", .str "back"])) = some (.fz (.bool true)) := by
  rw [oIn_gb (by decide +kernel)]
  simp
theorem q_write {m : Int} {x : It} (h : lfI m x) : qOf f_write_of [pdI x] = some (wD (wrI x)) := by
  apply qof_of
  unfold f_write_of m_write_of
  cases x with
  | row rs w =>
    simp [pdI, wrI, gb_row, sizeLine]
    rfl
  | give t => simp [pdI, wrI, gb_give, wD, sizeLine]
  | back t => simp [pdI, wrI, gb_back, wD, sizeLine]
  | _ => exact h.elim
theorem q_with {l : List Int} {t : Int} (h : l.length ≤ 1000) : qOf f_with_one [.list (l.map .int), .int t] = some (.list ((withI l t).map .int)) := by
  apply qof_of
  unfold f_with_one m_with_one withI
  have hz : l.length + 1 ≤ 16777216 := by omega
  by_cases c : t ∈ l
  · simp [oIn_ints, c]
  · simp [oIn_ints, c, hz, sizeLine]
theorem withI_ok {m t : Int} {l : List Int} (h : okW m l) (ht : inR m t) : okW m (withI l t) := by
  unfold withI
  by_cases c : t ∈ l
  · rw [if_pos c]; exact h
  · rw [if_neg c]; exact h.snoc c ht
theorem okW.perm {m : Int} {l r : List Int} (h : okW m l) (p : r.Perm l) : okW m r := ⟨p.nodup_iff.mpr h.1, fun x hx => h.2 x (p.mem_iff.mp hx)⟩
theorem sortI_ok {m : Int} {l : List Int} (h : okW m l) : okW m (sortI l) := h.perm (sortI_perm l)
end FM
namespace FM
open PySem PySem.Spec L2 PyProof.Rows
/-! ### the walk -/
def wkF (rows wr ho : List PD) (r : Bool) : List (Str × O) := [("rows", .lst rows), ("written", .lst wr), ("held_out", .lst ho), ("right", .fz (.bool r))]
section
variable {rows wr ho : List PD} {r : Bool}
theorem luN {α : Type} {x y : Str} {o : α} {t : List (Str × α)} (h : x ≠ y) : List.lookup y ((x, o) :: t) = List.lookup y t := lu_neg h
@[simp] theorem wk_rows : List.lookup ("rows" : Str) (wkF rows wr ho r) = some (.lst rows) := lu_pos rfl
@[simp] theorem wk_wr : List.lookup ("written" : Str) (wkF rows wr ho r) = some (.lst wr) := (luN (by decide)).trans (lu_pos rfl)
@[simp] theorem wk_ho : List.lookup ("held_out" : Str) (wkF rows wr ho r) = some (.lst ho) := (luN (by decide)).trans ((luN (by decide)).trans (lu_pos rfl))
@[simp] theorem wk_r : List.lookup ("right" : Str) (wkF rows wr ho r) = some (.fz (.bool r)) := (luN (by decide)).trans ((luN (by decide)).trans ((luN (by decide)).trans (lu_pos rfl)))
theorem wk_no {x : Str} (h1 : ("rows" : Str) ≠ x) (h2 : ("written" : Str) ≠ x) (h3 : ("held_out" : Str) ≠ x) (h4 : ("right" : Str) ≠ x) : (wkF rows wr ho r).lookup x = none := (luN h1).trans ((luN h2).trans ((luN h3).trans ((luN h4).trans rfl)))
@[simp] theorem wk_take : List.lookup ("take" : Str) (wkF rows wr ho r) = none := wk_no (by decide) (by decide) (by decide) (by decide)
@[simp] theorem wk_item : List.lookup ("item" : Str) (wkF rows wr ho r) = none := wk_no (by decide) (by decide) (by decide) (by decide)
@[simp] theorem wk_items : List.lookup ("items" : Str) (wkF rows wr ho r) = none := wk_no (by decide) (by decide) (by decide) (by decide)
@[simp] theorem wk_len : (wkF rows wr ho r).length = 4 := rfl
theorem pfN {x y : Str} {o o1 : O} {t : List (Str × O)} (h : x ≠ y) : pfO y o ((x, o1) :: t) = (x, o1) :: pfO y o t := pfO_neg h
@[simp] theorem wp_rows {ds : List PD} : pfO "rows" (.lst ds) (wkF rows wr ho r) = wkF ds wr ho r := pfO_pos rfl
@[simp] theorem wp_wr {ds : List PD} : pfO "written" (.lst ds) (wkF rows wr ho r) = wkF rows ds ho r := by
  unfold wkF
  rw [pfN (by decide), pfO_pos rfl]
@[simp] theorem wp_ho {ds : List PD} : pfO "held_out" (.lst ds) (wkF rows wr ho r) = wkF rows wr ds r := by
  unfold wkF
  rw [pfN (by decide), pfN (by decide), pfO_pos rfl]
@[simp] theorem wp_r {b : Bool} : pfO "right" (.fz (.bool b)) (wkF rows wr ho r) = wkF rows wr ho b := by
  unfold wkF
  rw [pfN (by decide), pfN (by decide), pfN (by decide), pfO_pos rfl]
end
theorem walk_init : f_Walk___init__ [.ins 0 []] = .ret (.fz .none) [.ins 0 (wkF [] [] [] true)] := by
  have h : wF (f_Walk___init__ [.ins 0 []]) fun o outs => o = .fz .none ∧ outs = [.ins 0 (wkF [] [] [] true)] := by
    unfold f_Walk___init__ m_Walk___init__
    rw [wF_defN, wS_seq]
    simp
    rw [wS_seq]
    simp
    rw [wS_seq]
    simp
    exact ⟨by decide +kernel, by decide +kernel, by decide +kernel, rfl⟩
  cases e : f_Walk___init__ [.ins 0 []] with
  | ret o outs =>
    rw [e] at h
    obtain ⟨rfl, rfl⟩ := h
    rfl
  | _ => rw [e] at h; exact h.elim
abbrev ilD (l : List Int) : PD := .list (l.map .int)
def inB (l : List Int) : PD → PD
  | .int i => .bool (decide (i ∈ l))
  | d => d
def wT (x : It) (wl : List Int) : List Int := match wrI x with
  | none => wl
  | some t => sortI (withI wl t)
def gT (x : It) (gl : List Int) : List Int := match x with
  | .give t => sortI (withI gl t)
  | .back t => gl.filter fun i => !decide (i = t)
  | _ => gl
theorem wT_ok {m : Int} {x : It} {wl : List Int} (hx : lfI m x) (h : okW m wl) : okW m (wT x wl) := by
  unfold wT
  cases ew : wrI x with
  | none => exact h
  | some t =>
    refine sortI_ok (withI_ok h ?_)
    cases x with
    | row rs w => exact hx.2.2 t ew
    | give t => cases ew
    | back t => cases ew
    | _ => exact hx.elim
theorem gT_ok {m : Int} {x : It} {gl : List Int} (hx : lfI m x) (h : okW m gl) : okW m (gT x gl) := by
  cases x with
  | give t => exact sortI_ok (withI_ok h hx)
  | back t => exact h.sub List.filter_sublist
  | _ => exact h
theorem take_spec {m : Int} {x : It} {rows wr ho : List PD} {r : Bool} {wl gl : List Int} {Q : O → List O → Prop} (hx : lfI m x) (hm : m ≤ 20) (hw : okW m wl) (hg : okW m gl) (h1 : rows.length < sizeLine) (h2 : wr.length < sizeLine) (h3 : ho.length < sizeLine)
    (h : ∀ r', Q (.fz (.tuple [ilD (wT x wl), ilD (gT x gl)])) [.ins 0 (wkF (rows ++ [pdI x]) (wr ++ [ilD wl]) (ho ++ [ilD (gT x gl)]) r'), .dead, .dead, .dead]) :
    wF (f_Walk_take [.ins 0 (wkF rows wr ho r), .fz (pdI x), .fz (ilD wl), .fz (ilD gl)]) Q := by
  have hwl := hw.len
  have hgl := hg.len
  have eR := q_reads hx
  have eW := q_write hx
  have lc : ∀ (a b c d : O), lcGo (fName 4) qYes (qOp oIn (qVar 4) (qVar 2)) [a, b, .fz (ilD wl), c, .dead, d, .dead] ((rdI x).map .int) = some (((rdI x).map fun i => .bool (decide (i ∈ wl)))) := by
    intro a b c d
    have := lcGo_map (f := fName 4) (e := qOp oIn (qVar 4) (qVar 2)) (ρ := [a, b, .fz (ilD wl), c, .dead, d, .dead]) (h := inB wl) (xs := (rdI x).map .int) fun y hy => by
      obtain ⟨i, hi, rfl⟩ := List.mem_map.mp hy
      refine ⟨_, rfl, ?_⟩
      simp [ilD, oIn_ints, inB]
    rw [this, List.map_map]
    rfl
  have hrl : (rdI x).length ≤ 24 := by
    cases x with
    | row rs w => exact hx.1
    | give t => simp [rdI]
    | back t => simp [rdI]
    | _ => exact hx.elim
  have hrl2 : (rdI x).length ≤ 16777216 := by omega
  have hall : oAll [.fz (.list ((rdI x).map fun i => .bool (decide (i ∈ wl))))] = some (.fz (.bool ((rdI x).all fun i => decide (i ∈ wl)))) := oAll_map
  have a1 : fAppend wr [ilD wl] = some (.none, wr ++ [ilD wl]) := fAppend_eq h2
  have a2 : fAppend rows [pdI x] = some (.none, rows ++ [pdI x]) := fAppend_eq h1
  have a3 : ∀ d, fAppend ho [d] = some (.none, ho ++ [d]) := fun d => fAppend_eq h3
  -- the end, whatever stands in the slots
  obtain ⟨b0, hb0⟩ : ∃ b, b = (rdI x).all fun i => decide (i ∈ wl) := ⟨_, rfl⟩
  rw [← hb0] at hall
  have tail : ∀ (r2 : Bool) (gl2 : List Int) (x4 x5 : O), gl2 = gT x gl → wS (sSeq (sDrop (mMtF 0 0 "rows" fAppend (qCons (qVar 1) qNil))) (sSeq (sDrop (mMtF 0 0 "held_out" fAppend (qCons (qVar 3) qNil))) (sSeq (sSet 6 (mLift (qCall (qOf f_write_of) (qCons (qVar 1) qNil)))) (sRet (mLift (qTup (qCons (qIf (qB (qOp oIsN (qVar 6) (qC (.none)))) (qVar 2) (qFz (qCb oSortV (qCons (qCall (qOf f_with_one) (qCons (qVar 2) (qCons (qVar 6) qNil))) qNil)))) (qCons (qVar 3) qNil)))))))
      [.ins 0 (wkF rows (wr ++ [ilD wl]) ho r2), .fz (pdI x), .fz (ilD wl), .fz (ilD gl2), x4, x5, .dead]) (fun ρ => Q (.fz .none) (outsE [true, false, false, false] ρ)) (fun o ρ => Q o (outsE [true, false, false, false] ρ)) (fun _ => False) (fun _ => False) := by
    intro r2 gl2 x4 x5 hg2
    rw [wS_seq]
    simp [a2]
    rw [wS_seq]
    simp [a3]
    rw [wS_seq]
    simp [qCall, eW]
    cases ew : wrI x with
    | none =>
      simp [wD, oEq_N, sizeLine]
      have := h r2
      unfold wT at this
      rw [ew] at this
      rw [hg2]
      exact this
    | some t =>
      have ht : inR m t := by
        cases x with
        | row rs w => exact hx.2.2 t ew
        | give t => cases ew
        | back t => cases ew
        | _ => exact hx.elim
      simp [wD, oEq_N, sizeLine, q_with (l := wl) (t := t) (by omega), oSortV_i]
      have := h r2
      unfold wT at this
      rw [ew] at this
      rw [hg2]
      exact this
  unfold f_Walk_take m_Walk_take
  rw [wF_defN, wS_seq]
  have mid : ∀ r1 : Bool, wS (sSeq (sDrop (mMtF 0 0 "written" fAppend (qCons (qVar 2) qNil))) (sSeq (sIf (bLift (qB (qOp oEq (qOp oIx (qVar 1) (qC (.int 0))) (qC (.str "give"))))) (sSeq (sSetF 0 0 "right" (mLift (qAndV (qFld 0 0 "right") (qOp oNin (qOp oIx (qVar 1) (qC (.int 1))) (qVar 3))))) (sSet 3 (mLift (qFz (qCb oSortV (qCons (qCall (qOf f_with_one) (qCons (qVar 3) (qCons (qOp oIx (qVar 1) (qC (.int 1))) qNil))) qNil)))))) sNext) (sSeq (sIf (bLift (qB (qOp oEq (qOp oIx (qVar 1) (qC (.int 0))) (qC (.str "back"))))) (sSeq (sSetF 0 0 "right" (mLift (qAndV (qFld 0 0 "right") (qOp oIn (qOp oIx (qVar 1) (qC (.int 1))) (qVar 3))))) (sSet 3 (mLift (qFz (qLc (qItA (qVar 3)) (fName 5) (qB (qOp oNe (qVar 5) (qOp oIx (qVar 1) (qC (.int 1))))) (qVar 5) [5]))))) sNext) (sSeq (sDrop (mMtF 0 0 "rows" fAppend (qCons (qVar 1) qNil))) (sSeq (sDrop (mMtF 0 0 "held_out" fAppend (qCons (qVar 3) qNil))) (sSeq (sSet 6 (mLift (qCall (qOf f_write_of) (qCons (qVar 1) qNil)))) (sRet (mLift (qTup (qCons (qIf (qB (qOp oIsN (qVar 6) (qC (.none)))) (qVar 2) (qFz (qCb oSortV (qCons (qCall (qOf f_with_one) (qCons (qVar 2) (qCons (qVar 6) qNil))) qNil)))) (qCons (qVar 3) qNil))))))))))
      [.ins 0 (wkF rows wr ho r1), .fz (pdI x), .fz (ilD wl), .fz (ilD gl), .dead, .dead, .dead]) (fun ρ => Q (.fz .none) (outsE [true, false, false, false] ρ)) (fun o ρ => Q o (outsE [true, false, false, false] ρ)) (fun _ => False) (fun _ => False) := by
    intro r1
    rw [wS_seq]
    simp [a1]
    cases x with
    | row rs w =>
      rw [wS_seq]
      simp [pdI]
      rw [wS_seq]
      simp
      exact tail r1 gl _ _ rfl
    | give t =>
      rw [wS_seq]
      simp [pdI]
      rw [wS_seq]
      cases r1 with
      | false =>
        simp [qCall, q_with (l := gl) (t := t) (by omega), oSortV_i]
        rw [wS_seq]
        simp
        exact tail false _ _ _ rfl
      | true =>
        simp [oNin_ints, qCall, q_with (l := gl) (t := t) (by omega), oSortV_i]
        rw [wS_seq]
        simp
        exact tail _ _ _ _ rfl
    | back t =>
      have lc2 : ∀ (a b c d e : O), lcGo (fName 5) (qB (qOp oNe (qVar 5) (qOp oIx (qVar 1) (qC (.int 1))))) (qVar 5) [a, .fz (pdI (.back t)), b, c, d, .dead, e] (gl.map .int) = some ((gl.filter fun i => !decide (i = t)).map .int) := by
        intro a b c d e
        refine lcGo_ints fun y hy => ⟨_, rfl, ?_, fun _ => by simp⟩
        simp [pdI]
      have hz : gl.length ≤ 16777216 := by omega
      rw [wS_seq]
      simp [pdI]
      rw [wS_seq]
      simp
      rw [wS_seq]
      simp [pdI] at lc2
      cases r1 with
      | false =>
        simp [lc2, hz, sizeLine]
        exact tail false _ _ _ rfl
      | true =>
        simp [oIn_ints, lc2, hz, sizeLine]
        exact tail _ _ _ _ rfl
    | _ => exact hx.elim
  cases b0 with
  | true =>
    simp [qCall, eR, lc, hrl2, hall, sizeLine]
    exact mid r
  | false =>
    simp [qCall, eR, lc, hrl2, hall, sizeLine]
    exact mid false
end FM
namespace FM
open PySem PySem.Spec L2 PyProof.Rows
/-! ### the walk, exactly -/
structure WR where
  wl : List Int
  gl : List Int
  wr : List (List Int)
  ho : List (List Int)
mutual
def xI : It → List Int → List Int → WR
  | .row rs w, wl, gl => ⟨wT (.row rs w) wl, gT (.row rs w) gl, [wl], [gT (.row rs w) gl]⟩
  | .give t, wl, gl => ⟨wT (.give t) wl, gT (.give t) gl, [wl], [gT (.give t) gl]⟩
  | .back t, wl, gl => ⟨wT (.back t) wl, gT (.back t) gl, [wl], [gT (.back t) gl]⟩
  | .rnd a, wl, gl => ⟨wl, gl, (xL a wl gl).wr, (xL a wl gl).ho⟩
  | .eit a b, wl, gl => ⟨(xL a wl gl).wl.filter fun x => decide (x ∈ (xL b wl gl).wl), gl, (xL a wl gl).wr ++ (xL b wl gl).wr, (xL a wl gl).ho ++ (xL b wl gl).ho⟩
def xL : Its → List Int → List Int → WR
  | .nil, wl, gl => ⟨wl, gl, [], []⟩
  | .cons x r, wl, gl => ⟨(xL r (xI x wl gl).wl (xI x wl gl).gl).wl, (xL r (xI x wl gl).wl (xI x wl gl).gl).gl, (xI x wl gl).wr ++ (xL r (xI x wl gl).wl (xI x wl gl).gl).wr, (xI x wl gl).ho ++ (xL r (xI x wl gl).wl (xI x wl gl).gl).ho⟩
end
structure WOk (m : Int) (n : Nat) (r : WR) : Prop where
  wl : okW m r.wl
  gl : okW m r.gl
  lw : r.wr.length = n
  lh : r.ho.length = n
  ho : ∀ g ∈ r.ho, okW m g
  wr : ∀ g ∈ r.wr, okW m g
theorem leaf_ok {m : Int} {x : It} {wl gl : List Int} (hx : lfI m x) (hw : okW m wl) (hg : okW m gl) : WOk m 1 ⟨wT x wl, gT x gl, [wl], [gT x gl]⟩ :=
  ⟨wT_ok hx hw, gT_ok hx hg, rfl, rfl, (fun g h => by rw [List.mem_singleton.mp h]; exact gT_ok hx hg), fun g h => by rw [List.mem_singleton.mp h]; exact hw⟩
mutual
theorem xI_ok {m : Int} : ∀ {x : It} {d : Nat} {wl gl : List Int}, okI m x d → okW m wl → okW m gl → WOk m (lvI x).length (xI x wl gl)
  | .row rs w, d, wl, gl, h, hw, hg => leaf_ok (x := .row rs w) (lvI_ok h _ List.mem_cons_self) hw hg
  | .give t, d, wl, gl, h, hw, hg => leaf_ok (x := .give t) (lvI_ok h _ List.mem_cons_self) hw hg
  | .back t, d, wl, gl, h, hw, hg => leaf_ok (x := .back t) (lvI_ok h _ List.mem_cons_self) hw hg
  | .rnd a, d + 1, wl, gl, h, hw, hg =>
    have r := xL_ok (a := a) h.1 hw hg
    ⟨hw, hg, r.lw, r.lh, r.ho, r.wr⟩
  | .eit a b, d + 1, wl, gl, h, hw, hg => by
    have r1 := xL_ok (a := a) h.1.1 hw hg
    have r2 := xL_ok (a := b) h.2.1 hw hg
    refine ⟨r1.wl.sub List.filter_sublist, hg, ?_, ?_, fun g z => (List.mem_append.mp z).elim (r1.ho g) (r2.ho g), fun g z => (List.mem_append.mp z).elim (r1.wr g) (r2.wr g)⟩
    · show ((xL a wl gl).wr ++ (xL b wl gl).wr).length = (lvL a ++ lvL b).length
      rw [List.length_append, List.length_append, r1.lw, r2.lw]
    · show ((xL a wl gl).ho ++ (xL b wl gl).ho).length = (lvL a ++ lvL b).length
      rw [List.length_append, List.length_append, r1.lh, r2.lh]
  | .rnd _, 0, _, _, h, _, _ => h.elim
  | .eit _ _, 0, _, _, h, _, _ => h.elim
theorem xL_ok {m : Int} : ∀ {a : Its} {d : Nat} {wl gl : List Int}, okL m a d → okW m wl → okW m gl → WOk m (lvL a).length (xL a wl gl)
  | .nil, _, wl, gl, _, hw, hg => ⟨hw, hg, rfl, rfl, (fun g h => by cases h), fun g h => by cases h⟩
  | .cons x r, d, wl, gl, h, hw, hg => by
    have r1 := xI_ok (x := x) h.1 hw hg
    have r2 := xL_ok (a := r) h.2 r1.wl r1.gl
    refine ⟨r2.wl, r2.gl, ?_, ?_, fun g z => (List.mem_append.mp z).elim (r1.ho g) (r2.ho g), fun g z => (List.mem_append.mp z).elim (r1.wr g) (r2.wr g)⟩
    · show ((xI x wl gl).wr ++ (xL r (xI x wl gl).wl (xI x wl gl).gl).wr).length = (lvI x ++ lvL r).length
      rw [List.length_append, List.length_append, r1.lw, r2.lw]
    · show ((xI x wl gl).ho ++ (xL r (xI x wl gl).wl (xI x wl gl).gl).ho).length = (lvI x ++ lvL r).length
      rw [List.length_append, List.length_append, r1.lh, r2.lh]
end
def capW (rows wr ho : List PD) (n : Nat) : Prop := rows.length + n < sizeLine ∧ wr.length + n < sizeLine ∧ ho.length + n < sizeLine
def SpecWI (m : Int) (F : List O → FR) (d : Nat) : Prop := ∀ (x : It) (rows wr ho : List PD) (r : Bool) (wl gl : List Int) (Q : O → List O → Prop), okI m x d → capW rows wr ho (lvI x).length → okW m wl → okW m gl →
  (∀ r', Q (.fz (.tuple [ilD (xI x wl gl).wl, ilD (xI x wl gl).gl])) [.ins 0 (wkF (rows ++ (lvI x).map pdI) (wr ++ (xI x wl gl).wr.map ilD) (ho ++ (xI x wl gl).ho.map ilD) r'), .dead, .dead, .dead]) →
  wF (F [.ins 0 (wkF rows wr ho r), .fz (pdI x), .fz (ilD wl), .fz (ilD gl)]) Q
def SpecWL (m : Int) (F : List O → FR) (d : Nat) : Prop := ∀ (its : Its) (rows wr ho : List PD) (r : Bool) (wl gl : List Int) (Q : O → List O → Prop), okL m its d → capW rows wr ho (lvL its).length → okW m wl → okW m gl →
  (∀ r', Q (.fz (.tuple [ilD (xL its wl gl).wl, ilD (xL its wl gl).gl])) [.ins 0 (wkF (rows ++ (lvL its).map pdI) (wr ++ (xL its wl gl).wr.map ilD) (ho ++ (xL its wl gl).ho.map ilD) r'), .dead, .dead, .dead]) →
  wF (F [.ins 0 (wkF rows wr ho r), .fz (.tuple (pdL its)), .fz (ilD wl), .fz (ilD gl)]) Q
theorem q_inboth {l r : List Int} (h : l.length ≤ 1000) : qOf f_in_both [ilD l, ilD r] = some (ilD (l.filter fun x => decide (x ∈ r))) := by
  apply qof_of
  unfold f_in_both m_in_both
  have hz : l.length ≤ 16777216 := by omega
  have lc : ∀ a : O, lcGo (fName 2) (qB (qOp oIn (qVar 2) (qVar 1))) (qVar 2) [a, .fz (ilD r), .dead] (l.map .int) = some ((l.filter fun x => decide (x ∈ r)).map .int) := by
    intro a
    refine lcGo_ints fun y hy => ⟨_, rfl, ?_, fun _ => by simp⟩
    simp [ilD, oIn_ints]
  simp [ilD] at lc ⊢
  simp [lc, hz, sizeLine]
theorem oEq_il {l r : List Int} : oEq (.fz (.list (l.map .int))) (.fz (.list (r.map .int))) = some (.fz (.bool (decide (l = r)))) := oEq_ints rfl rfl
theorem witem_spec {m : Int} {rI rL : List O → FR} {d : Nat} (hm : m ≤ 20) (hL : ∀ d', d = d' + 1 → SpecWL m rL d') : SpecWI m (defN 4 [true, false, false, false] (m_Walk_item rI rL)) d := by
  intro x rows wr ho r wl gl Q ok cap hw hg h
  have hwl := hw.len
  have leaf : ∀ y : It, lvI y = [y] → x = y → lfI m y → xI y wl gl = ⟨wT y wl, gT y gl, [wl], [gT y gl]⟩ → (∃ s ds, pdI y = .tuple (.str s :: ds) ∧ (s = "either") = False ∧ (s = "round") = False) → wF (defN 4 [true, false, false, false] (m_Walk_item rI rL) [.ins 0 (wkF rows wr ho r), .fz (pdI x), .fz (ilD wl), .fz (ilD gl)]) Q := by
    rintro y e1 rfl e2 e6 ⟨s, ds, e3, e4, e5⟩
    rw [e1] at cap h
    rw [e6] at h
    unfold m_Walk_item
    rw [wF_defN, wS_seq]
    simp [e3, e4, -List.lookup_eq_none_iff]
    rw [wS_seq]
    simp [e5, -List.lookup_eq_none_iff]
    rw [← e3]
    have k1 : rows.length < sizeLine := Nat.lt_of_succ_lt cap.1
    have k2 : wr.length < sizeLine := Nat.lt_of_succ_lt cap.2.1
    have k3 : ho.length < sizeLine := Nat.lt_of_succ_lt cap.2.2
    refine take_spec e2 hm hw hg k1 k2 k3 fun r' => ?_
    simp [-List.lookup_eq_none_iff]
    exact h r'
  cases x with
  | row rs w => exact leaf _ rfl rfl (lvI_ok ok _ List.mem_cons_self) rfl ⟨_, _, rfl, s_re, s_rr⟩
  | give t => exact leaf _ rfl rfl (lvI_ok ok _ List.mem_cons_self) rfl ⟨_, _, rfl, s_ge, s_gr⟩
  | back t => exact leaf _ rfl rfl (lvI_ok ok _ List.mem_cons_self) rfl ⟨_, _, rfl, s_be, s_br⟩
  | rnd a =>
    cases d with
    | zero => exact ok.elim
    | succ d =>
      unfold m_Walk_item
      rw [wF_defN, wS_seq]
      simp [pdI, -List.lookup_eq_none_iff]
      rw [wS_seq]
      simp [-List.lookup_eq_none_iff]
      rw [wS_seq]
      simp [-List.lookup_eq_none_iff]
      refine hL d rfl a rows wr ho r wl gl _ ok.1 cap hw hg fun r1 => ?_
      simp [-List.lookup_eq_none_iff]
      rw [wS_seq]
      cases r1 with
      | false =>
        simp [sizeLine, -List.lookup_eq_none_iff]
        exact h false
      | true =>
        simp [oEq_il, sizeLine, -List.lookup_eq_none_iff]
        exact h _
  | eit a b =>
    cases d with
    | zero => exact ok.elim
    | succ d =>
      have hlen : (lvI (.eit a b)).length = (lvL a).length + (lvL b).length := by
        show (lvL a ++ lvL b).length = _
        rw [List.length_append]
      rw [hlen] at cap
      obtain ⟨c1, c2, c3⟩ := cap
      have o1 := xL_ok ok.1.1 hw hg
      have o2 := xL_ok ok.2.1 hw hg
      unfold m_Walk_item
      rw [wF_defN, wS_seq]
      simp [pdI, -List.lookup_eq_none_iff]
      rw [wS_seq]
      simp [-List.lookup_eq_none_iff]
      refine hL d rfl a rows wr ho r wl gl _ ok.1.1 ⟨by omega, by omega, by omega⟩ hw hg fun r1 => ?_
      generalize hA : xL a wl gl = A at *
      simp [-List.lookup_eq_none_iff]
      rw [wS_seq]
      simp [-List.lookup_eq_none_iff]
      refine hL d rfl b _ _ _ r1 wl gl _ ok.2.1 ⟨by rw [List.length_append, List.length_map]; omega, by rw [List.length_append, List.length_map, o1.lw]; omega, by rw [List.length_append, List.length_map, o1.lh]; omega⟩ hw hg fun r2 => ?_
      generalize hB : xL b wl gl = B at *
      have e : xI (.eit a b) wl gl = ⟨A.wl.filter fun x => decide (x ∈ B.wl), gl, A.wr ++ B.wr, A.ho ++ B.ho⟩ := by
        show WR.mk _ _ _ _ = _
        rw [hA, hB]
      rw [e] at h
      have fin : ∀ b0 : Bool, Q (.fz (.tuple [ilD (A.wl.filter fun x => decide (x ∈ B.wl)), ilD gl])) [.ins 0 (wkF (rows ++ ((lvL a).map pdI ++ (lvL b).map pdI)) (wr ++ (A.wr.map ilD ++ B.wr.map ilD)) (ho ++ (A.ho.map ilD ++ B.ho.map ilD)) b0), .dead, .dead, .dead] := fun b0 => by
        have := h b0
        have e : (lvI (.eit a b)).map pdI = (lvL a).map pdI ++ (lvL b).map pdI := by
          show (lvL a ++ lvL b).map pdI = _
          rw [List.map_append]
        rw [e] at this
        simp only [List.map_append] at this
        exact this
      have ib : qOf f_in_both [.list (A.wl.map .int), .list (B.wl.map .int)] = some (ilD (A.wl.filter fun x => decide (x ∈ B.wl))) := q_inboth (by have := o1.wl.len; omega)
      simp [-List.lookup_eq_none_iff]
      rw [wS_seq]
      cases r2 with
      | false =>
        simp [qCall, ib, sizeLine, -List.lookup_eq_none_iff]
        exact fin false
      | true =>
        by_cases g1 : A.gl = gl <;> by_cases g2 : B.gl = gl <;> simp [oEq_il, qCall, ib, sizeLine, g1, g2, -List.lookup_eq_none_iff] <;> exact fin _
theorem witems_spec {m : Int} {rI rL : List O → FR} {d : Nat} (hI : SpecWI m rI d) : SpecWL m (defN 1 [true, false, false, false] (m_Walk_items rI rL)) d := by
  intro its rows wr ho r wl gl Q ok cap hw hg h
  unfold m_Walk_items
  rw [wF_defN, wS_seq]
  simp [-List.lookup_eq_none_iff]
  have go : ∀ (js : Its) (rows wr ho : List PD) (r : Bool) (wl gl : List Int) (x4 : O) (nx : List O → Prop) (rt : O → List O → Prop), okL m js d → capW rows wr ho (lvL js).length → okW m wl → okW m gl →
      (∀ r' x4, nx [.ins 0 (wkF (rows ++ (lvL js).map pdI) (wr ++ (xL js wl gl).wr.map ilD) (ho ++ (xL js wl gl).ho.map ilD) r'), .fz (.tuple (pdL its)), .fz (ilD (xL js wl gl).wl), .fz (ilD (xL js wl gl).gl), x4]) →
      wS (forGo (fName 4) (sAsg (fTup 2 (fCons (fName 2) (fCons (fName 3) fNil))) (frzM (mMeth 0 0 "item" rI [none, none, none] (mCons (mLift (qVar 4)) (mCons (mLift (qVar 2)) (mCons (mLift (qVar 3)) mNil)))))) (pdL js) [.ins 0 (wkF rows wr ho r), .fz (.tuple (pdL its)), .fz (ilD wl), .fz (ilD gl), x4]) nx rt (fun _ => False) (fun _ => False) := by
    intro js
    induction js using Its.rec (motive_1 := fun _ => True) with
    | nil =>
      intro rows wr ho r wl gl x4 nx rt _ _ hw hg hn
      have := hn r x4
      have e0 : lvL Its.nil = [] := rfl
      have e1 : xL Its.nil wl gl = ⟨wl, gl, [], []⟩ := rfl
      rw [e0, e1] at this
      show nx _
      simpa using this
    | cons x js _ ih =>
      intro rows wr ho r wl gl x4 nx rt ok cap hw hg hn
      have hlen : (lvL (.cons x js)).length = (lvI x).length + (lvL js).length := by
        show (lvI x ++ lvL js).length = _
        rw [List.length_append]
      rw [hlen] at cap
      obtain ⟨c1, c2, c3⟩ := cap
      show wS (forGo _ _ (pdI x :: pdL js) _) _ _ _ _
      rw [wS_forCons]
      refine ⟨_, rfl, ?_⟩
      simp [-List.lookup_eq_none_iff]
      have o1 := xI_ok ok.1 hw hg
      refine hI x rows wr ho r wl gl _ ok.1 ⟨by omega, by omega, by omega⟩ hw hg fun r1 => ?_
      have e1 : xL (.cons x js) wl gl = ⟨(xL js (xI x wl gl).wl (xI x wl gl).gl).wl, (xL js (xI x wl gl).wl (xI x wl gl).gl).gl, (xI x wl gl).wr ++ (xL js (xI x wl gl).wl (xI x wl gl).gl).wr, (xI x wl gl).ho ++ (xL js (xI x wl gl).wl (xI x wl gl).gl).ho⟩ := rfl
      have e : (lvL (.cons x js)).map pdI = (lvI x).map pdI ++ (lvL js).map pdI := by
        show (lvI x ++ lvL js).map pdI = _
        rw [List.map_append]
      rw [e1, e] at hn
      generalize xI x wl gl = A at *
      simp [-List.lookup_eq_none_iff]
      refine ih _ _ _ r1 A.wl A.gl _ nx rt ok.2 ⟨by rw [List.length_append, List.length_map]; omega, by rw [List.length_append, List.length_map, o1.lw]; omega, by rw [List.length_append, List.length_map, o1.lh]; omega⟩ o1.wl o1.gl fun r2 x4 => ?_
      have := hn r2 x4
      simp only [List.map_append, ← List.append_assoc] at this
      exact this
    | _ => trivial
  refine go its rows wr ho r wl gl _ _ _ ok cap hw hg fun r' x4 => ?_
  simp [sizeLine, -List.lookup_eq_none_iff]
  exact h r'
theorem grp_walk {m : Int} (hm : m ≤ 20) : ∀ (d n : Nat), 2 * d + 2 ≤ n → SpecWL m (grp_Walk_item n 1) d
  | d, 0, h => by omega
  | d, 1, h => by omega
  | 0, n + 2, h => witems_spec (rI := grp_Walk_item (n + 1) 0) (rL := grp_Walk_item (n + 1) 1) (witem_spec (rI := grp_Walk_item n 0) (rL := grp_Walk_item n 1) hm fun d' e => by omega)
  | d + 1, n + 2, h => witems_spec (rI := grp_Walk_item (n + 1) 0) (rL := grp_Walk_item (n + 1) 1) (witem_spec (rI := grp_Walk_item n 0) (rL := grp_Walk_item n 1) hm fun d' e => by
    have e' : d' = d := by omega
    subst e'
    exact grp_walk hm d' n (by omega))
def wkP (its : Its) (o : O) (outs : List O) : Prop := ∃ r, o = .ins 0 (wkF ((lvL its).map pdI) ((xL its [] []).wr.map ilD) ((xL its [] []).ho.map ilD) r)
/-- what the walk of a program tells -/
theorem walked_ok {ts : List (Int × Int)} {its : Its} {d : Nat} (ok : okP' ts its d) : ∃ r outs, f_walked [.fz (prgD ts its)] = .ret (.ins 0 (wkF ((lvL its).map pdI) ((xL its [] []).wr.map ilD) ((xL its [] []).ho.map ilD) r)) outs := by
  obtain ⟨o1, o2, o3, o4, o5⟩ := ok
  have hlen : (lvL its).length ≤ 24 * 32 ^ 3 := by
    have h1 := lvL_len o2
    have h2 := Nat.mul_le_mul_right (32 ^ d) o4
    have h3 : 32 ^ d ≤ 32 ^ 3 := Nat.pow_le_pow_right (by decide) o3
    omega
  have hcap : (lvL its).length < sizeLine := by
    have : (32 : Nat) ^ 3 = 32768 := by decide
    unfold sizeLine
    omega
  have h : wF (f_walked [.fz (prgD ts its)]) (wkP its) := by
    unfold f_walked m_walked
    rw [wF_defN, wS_seq]
    simp [walk_init, wF, -List.lookup_eq_none_iff]
    rw [wS_seq]
    simp [prgD, -List.lookup_eq_none_iff]
    refine grp_walk (by omega) d 45 (by omega) its [] [] [] true [] [] _ o2 ⟨by simpa using hcap, by simpa using hcap, by simpa using hcap⟩ okW_nil okW_nil fun r' => ?_
    simp [-List.lookup_eq_none_iff]
    exact ⟨r', rfl⟩
  cases e : f_walked [.fz (prgD ts its)] with
  | ret o outs =>
    rw [e] at h
    obtain ⟨r, rfl⟩ := h
    exact ⟨r, outs, rfl⟩
  | _ => rw [e] at h; exact h.elim
end FM
namespace FM
open PySem PySem.Spec L2 PyProof.Rows
/-! ### the flow -/
def flF (l : O) : List (Str × O) := [("nexts", l)]
section
variable {l o : O}
@[simp] theorem fl_n : List.lookup ("nexts" : Str) (flF l) = some l := lu_pos rfl
@[simp] theorem fl_item : List.lookup ("item" : Str) (flF l) = none := (luN (by decide)).trans rfl
@[simp] theorem fl_items : List.lookup ("items" : Str) (flF l) = none := (luN (by decide)).trans rfl
@[simp] theorem fl_linked : List.lookup ("linked" : Str) (flF l) = none := (luN (by decide)).trans rfl
@[simp] theorem fp_n : pfO "nexts" o (flF l) = flF o := pfO_pos rfl
end
def kvT (k : Int) : Key × PD := (.inl k, .bool true)
def dcO (ks : List Int) : O := .dic (ks.map kvT)
def nsO (l : O) (ns : List (List Int)) : Prop := nstL l = some (ns.map dcO)
def okN (N : Nat) (ns : List (List Int)) : Prop := ∀ ks ∈ ns, okW N ks
def inB' (n : Nat) (es : List Int) : Prop := ∀ e ∈ es, 0 ≤ e ∧ e < n
theorem flow_init : f_Flow___init__ [.ins 1 []] = .ret (.fz .none) [.ins 1 (flF (.lst []))] := by
  have h : wF (f_Flow___init__ [.ins 1 []]) fun o outs => o = .fz .none ∧ outs = [.ins 1 (flF (.lst []))] := by
    unfold f_Flow___init__ m_Flow___init__
    rw [wF_defN]
    simp [-List.lookup_eq_none_iff]
    rfl
  cases e : f_Flow___init__ [.ins 1 []] with
  | ret o outs =>
    rw [e] at h
    obtain ⟨rfl, rfl⟩ := h
    rfl
  | _ => rw [e] at h; exact h.elim
theorem nsO_nst {l : O} {ns : List (List Int)} (h : nsO l ns) (hn : ns ≠ []) : l = .nst (ns.map dcO) := by
  unfold nsO at h
  cases l with
  | lst ds =>
    cases ns with
    | nil => exact (hn rfl).elim
    | cons a r =>
      have h := Option.some.inj h
      cases ds with
      | nil => cases h
      | cons d ds =>
        rw [List.map_cons, List.map_cons] at h
        have := (List.cons.inj h).1
        cases this
  | nst os =>
    have h := Option.some.inj h
    rw [h]
  | _ => cases h
theorem putD_kv {ks : List Int} {x : Int} : putD (ks.map kvT) (.inl x) (.bool true) = (withI ks x).map kvT := by
  unfold putD withI
  have e : ((ks.map kvT).any fun kv => decide (kv.1 = Sum.inl x)) = decide (x ∈ ks) := by
    rw [List.any_map, Bool.eq_iff_iff, List.any_eq_true]
    constructor
    · rintro ⟨y, hy, e⟩
      have : (kvT y).1 = Sum.inl x := by simpa using e
      have e2 : y = x := Sum.inl.inj this
      rw [← e2]
      simpa using hy
    · intro hx
      exact ⟨x, by simpa using hx, by simp [kvT]⟩
  rw [e]
  by_cases c : x ∈ ks
  · rw [if_pos (by simpa using c), if_pos c, List.map_map]
    apply List.map_congr_left
    intro y hy
    show (if (kvT y).1 = Sum.inl x then ((kvT y).1, PyData.bool true) else kvT y) = kvT y
    split <;> rfl
  · rw [if_neg (by simpa using c), if_neg c, List.map_append]
    rfl
def inS (ns : List (List Int)) (e : Int) : List Int → List (List Int)
  | [] => ns
  | c :: cs => inS (ns.set e.toNat (withI (ns.getD e.toNat []) c)) e cs
def lkF (ns : List (List Int)) (bs : List Int) : List Int → List (List Int)
  | [] => ns
  | e :: es => lkF (inS ns e bs) bs es
theorem linked_spec {N : Nat} {l : O} {ns : List (List Int)} {es bs : List Int} {Q : O → List O → Prop} (hN : N ≤ 1000000) (hl : nsO l ns) (hk : okN N ns) (he : inB' ns.length es) (hb : inB' N bs)
    (h : ∀ l' ns', nsO l' ns' → ns'.length = ns.length → okN N ns' → ns' = lkF ns bs es → Q (.fz .none) [.ins 1 (flF l'), .dead, .dead]) : wF (f_Flow_linked [.ins 1 (flF l), .fz (ilD es), .fz (ilD bs)]) Q := by
  unfold f_Flow_linked m_Flow_linked
  rw [wF_defN]
  simp [ilD, -List.lookup_eq_none_iff]
  have inner : ∀ (cs : List Int) (l : O) (ns : List (List Int)) (e : Int) (x4 : O) (nx bk ct : List O → Prop) (rt : O → List O → Prop), nsO l ns → okN N ns → (0 ≤ e ∧ e < ns.length) → inB' N cs →
      (∀ l' ns' x4, nsO l' ns' → ns'.length = ns.length → okN N ns' → ns' = inS ns e cs → nx [.ins 1 (flF l'), .fz (.list (es.map .int)), .fz (.list (bs.map .int)), .fz (.int e), x4]) →
      wS (forGo (fName 4) (sSetN 1 0 "nexts" (qVar 3) (qVar 4) (mLift (qC (.bool true)))) (cs.map .int) [.ins 1 (flF l), .fz (.list (es.map .int)), .fz (.list (bs.map .int)), .fz (.int e), x4]) nx rt bk ct := by
    intro cs
    induction cs with
    | nil => intro l ns e x4 nx bk ct rt h1 h2 h3 h4 h5; exact h5 l ns x4 h1 rfl h2 rfl
    | cons c cs ih =>
      intro l ns e x4 nx bk ct rt h1 h2 h3 h4 h5
      rw [List.map_cons, wS_forCons]
      refine ⟨_, rfl, ?_⟩
      have hne : ns ≠ [] := by
        intro z
        rw [z] at h3
        simp at h3
        omega
      have hl := nsO_nst h1 hne
      subst hl
      obtain ⟨j, hj, hj2⟩ : ∃ j : Nat, e = (j : Int) ∧ j < ns.length := ⟨e.toNat, by omega, by omega⟩
      subst hj
      have hget : (ns.map dcO)[j]? = some (.dic ((ns[j]'hj2).map kvT)) := by
        rw [List.getElem?_map, List.getElem?_eq_getElem hj2]
        rfl
      have hks : okW N (ns[j]'hj2) := h2 _ (List.getElem_mem hj2)
      have hlen := hks.len
      refine wS_setN (j := j) (y := .fz (.int c)) (z := .inl c) rfl rfl fl_n rfl rfl rfl hget (by rw [List.length_map]; unfold sizeLine; omega) ?_
      have hset : ∀ ks', okW N ks' → okN N (ns.set j ks') := fun ks' hk' a ha => by
        rcases List.mem_or_eq_of_mem_set ha with q | q
        · exact h2 a q
        · rw [q]; exact hk'
      have hc := h4 c List.mem_cons_self
      have e2 : (ns.map dcO).set j (.dic (putD ((ns[j]'hj2).map kvT) (.inl c) (.bool true))) = (ns.set j (withI (ns[j]'hj2) c)).map dcO := by
        rw [putD_kv, List.map_set]
        rfl
      rw [e2]
      simp [-List.lookup_eq_none_iff]
      refine ih (.nst ((ns.map dcO).set j (dcO (withI (ns[j]'hj2) c)))) (ns.set j (withI (ns[j]'hj2) c)) _ _ _ _ _ _ (by show some _ = some _; rw [List.map_set]) (hset _ (withI_ok hks ⟨hc.1, hc.2⟩)) (by rw [List.length_set]; exact h3) (fun z hz => h4 z (List.mem_cons_of_mem _ hz)) fun l' ns' x4 q1 q2 q3 q4 => h5 l' ns' x4 q1 (by rw [q2, List.length_set]) q3 (by rw [q4]; simp only [inS, Int.toNat_natCast]; rw [List.getD_eq_getElem?_getD, List.getElem?_eq_getElem hj2]; rfl)
  have outer : ∀ (cs : List Int) (l : O) (ns : List (List Int)) (x3 x4 : O) (nx : List O → Prop) (rt : O → List O → Prop), nsO l ns → okN N ns → inB' ns.length cs →
      (∀ l' ns' x3 x4, nsO l' ns' → ns'.length = ns.length → okN N ns' → ns' = lkF ns bs cs → nx [.ins 1 (flF l'), .fz (.list (es.map .int)), .fz (.list (bs.map .int)), x3, x4]) →
      wS (forGo (fName 3) (sFor (iLift (qIfA (qVar 2))) (fName 4) (sSetN 1 0 "nexts" (qVar 3) (qVar 4) (mLift (qC (.bool true))))) (cs.map .int) [.ins 1 (flF l), .fz (.list (es.map .int)), .fz (.list (bs.map .int)), x3, x4]) nx rt (fun _ => False) (fun _ => False) := by
    intro cs
    induction cs with
    | nil => intro l ns x3 x4 nx rt h1 h2 h3 h5; exact h5 l ns x3 x4 h1 rfl h2 rfl
    | cons c cs ih =>
      intro l ns x3 x4 nx rt h1 h2 h3 h5
      rw [List.map_cons, wS_forCons]
      refine ⟨_, rfl, ?_⟩
      simp [-List.lookup_eq_none_iff]
      refine inner bs l ns c _ _ _ _ _ h1 h2 (h3 c List.mem_cons_self) hb fun l' ns' x4 q1 q2 q3 q4 => ?_
      refine ih l' ns' _ _ _ _ q1 q3 (fun z hz => by rw [q2]; exact h3 z (List.mem_cons_of_mem _ hz)) fun l2 ns2 x3 x4 p1 p2 p3 p4 => h5 l2 ns2 x3 x4 p1 (p2.trans q2) p3 (by rw [p4, q4]; rfl)
  refine outer es l ns _ _ _ _ hl hk he fun l' ns' x3 x4 q1 q2 q3 q4 => ?_
  simp [-List.lookup_eq_none_iff]
  exact h l' ns' q1 q2 q3 q4
end FM
namespace FM
open PySem PySem.Spec L2 PyProof.Rows
structure FlR where
  b : List Int
  e : List Int
  bare : Bool
  ns : List (List Int)
mutual
def fI : It → List (List Int) → FlR
  | .row _ _, ns => ⟨[(ns.length : Int)], [(ns.length : Int)], false, ns ++ [[]]⟩
  | .give _, ns => ⟨[(ns.length : Int)], [(ns.length : Int)], false, ns ++ [[]]⟩
  | .back _, ns => ⟨[(ns.length : Int)], [(ns.length : Int)], false, ns ++ [[]]⟩
  | .rnd a, ns => ⟨(fL a [] [] true ns).b, (fL a [] [] true ns).e, true, lkF (fL a [] [] true ns).ns (fL a [] [] true ns).b (fL a [] [] true ns).e⟩
  | .eit a b, ns => ⟨(fL a [] [] true ns).b ++ (fL b [] [] true (fL a [] [] true ns).ns).b, (fL a [] [] true ns).e ++ (fL b [] [] true (fL a [] [] true ns).ns).e, (fL a [] [] true ns).bare || (fL b [] [] true (fL a [] [] true ns).ns).bare, (fL b [] [] true (fL a [] [] true ns).ns).ns⟩
def fL : Its → List Int → List Int → Bool → List (List Int) → FlR
  | .nil, b, e, bare, ns => ⟨b, e, bare, ns⟩
  | .cons x r, b, e, bare, ns => fL r (if bare then b ++ (fI x ns).b else b) (if (fI x ns).bare then e ++ (fI x ns).e else (fI x ns).e) (bare && (fI x ns).bare) (lkF (fI x ns).ns (fI x ns).b e)
end
def retF (N : Nat) (ns : List (List Int)) (k : Nat) (R : FlR) (Q : O → List O → Prop) : Prop := ∀ (b e : List Int) (bare : Bool) (l' : O) (ns' : List (List Int)), nsO l' ns' → ns'.length = ns.length + k → okN N ns' → inB' ns'.length b → inB' ns'.length e → b.length ≤ k → e.length ≤ k → FlR.mk b e bare ns' = R → Q (.fz (.tuple [ilD b, ilD e, .bool bare])) [.ins 1 (flF l'), .dead]
def SpecFI (m : Int) (N : Nat) (F : List O → FR) (d : Nat) : Prop := ∀ (x : It) (l : O) (ns : List (List Int)) (Q : O → List O → Prop), okI m x d → nsO l ns → ns.length + (lvI x).length ≤ N → okN N ns → retF N ns (lvI x).length (fI x ns) Q → wF (F [.ins 1 (flF l), .fz (pdI x)]) Q
def SpecFL (m : Int) (N : Nat) (F : List O → FR) (d : Nat) : Prop := ∀ (its : Its) (l : O) (ns : List (List Int)) (Q : O → List O → Prop), okL m its d → nsO l ns → ns.length + (lvL its).length ≤ N → okN N ns → retF N ns (lvL its).length (fL its [] [] true ns) Q → wF (F [.ins 1 (flF l), .fz (.tuple (pdL its))]) Q
theorem inB_mono {n n' : Nat} {l : List Int} (h : inB' n l) (hn : n ≤ n') : inB' n' l := fun e he => by
  have := h e he
  omega
theorem inB_app {n : Nat} {a b : List Int} (h1 : inB' n a) (h2 : inB' n b) : inB' n (a ++ b) := fun e he => (List.mem_append.mp he).elim (h1 e) (h2 e)
theorem fitem_spec {m : Int} {N : Nat} {rI rL : List O → FR} {d : Nat} (hN : N ≤ 1000000) (hL : ∀ d', d = d' + 1 → SpecFL m N rL d') : SpecFI m N (defN 5 [true, false] (m_Flow_item rI rL)) d := by
  intro x l ns Q ok hl cap hk h
  have leaf : ∀ y : It, lvI y = [y] → x = y → fI y ns = ⟨[(ns.length : Int)], [(ns.length : Int)], false, ns ++ [[]]⟩ → (∃ s ds, pdI y = .tuple (.str s :: ds) ∧ (s = "either") = False ∧ (s = "round") = False) → wF (defN 5 [true, false] (m_Flow_item rI rL) [.ins 1 (flF l), .fz (pdI x)]) Q := by
    rintro y e1 rfl e9 ⟨s, ds, e3, e4, e5⟩
    rw [e1] at cap h
    simp at cap
    unfold m_Flow_item
    rw [wF_defN, wS_seq]
    simp [e3, e4, -List.lookup_eq_none_iff]
    rw [wS_seq]
    simp [e5, -List.lookup_eq_none_iff]
    rw [wS_seq]
    have hl' : nstL l = some (ns.map dcO) := hl
    have hz : ns.length < sizeLine := by unfold sizeLine; omega
    simp [hl', hz, -List.lookup_eq_none_iff]
    have e6 : oLen [.nst (ns.map dcO ++ [.dic []])] = some (.fz (.int ((ns.length : Int) + 1))) := by
      show some (O.fz (.int ((ns.map dcO ++ [O.dic []]).length : Int))) = _
      simp [-List.lookup_eq_none_iff]
    simp [e6, sizeLine, -List.lookup_eq_none_iff]
    have e7 : (ns.length : Int) + 1 - 1 = ns.length := by omega
    have := h [(ns.length : Int)] [(ns.length : Int)] false (.nst (ns.map dcO ++ [.dic []])) (ns ++ [[]]) (by unfold nsO; rw [List.map_append]; rfl) (by simp) (fun ks hks => (List.mem_append.mp hks).elim (hk ks) fun z => by rw [List.mem_singleton.mp z]; exact okW_nil) (fun e he => by rw [List.mem_singleton.mp he]; simp; omega) (fun e he => by rw [List.mem_singleton.mp he]; simp; omega) (by simp) (by simp) e9.symm
    simpa [ilD] using this
  cases x with
  | row rs w => exact leaf _ rfl rfl rfl ⟨_, _, rfl, s_re, s_rr⟩
  | give t => exact leaf _ rfl rfl rfl ⟨_, _, rfl, s_ge, s_gr⟩
  | back t => exact leaf _ rfl rfl rfl ⟨_, _, rfl, s_be, s_br⟩
  | rnd a =>
    cases d with
    | zero => exact ok.elim
    | succ d =>
      unfold m_Flow_item
      rw [wF_defN, wS_seq]
      simp [pdI, -List.lookup_eq_none_iff]
      rw [wS_seq]
      simp [-List.lookup_eq_none_iff]
      rw [wS_seq]
      simp [-List.lookup_eq_none_iff]
      refine hL d rfl a l ns _ ok.1 hl cap hk fun b e bare l1 ns1 q1 q2 q3 q4 q5 q6 q7 q8 => ?_
      simp [ilD, -List.lookup_eq_none_iff]
      rw [wS_seq]
      simp [-List.lookup_eq_none_iff]
      have hlen1 : ns1.length ≤ N := by rw [q2]; exact cap
      refine linked_spec hN q1 q3 q5 (inB_mono q4 hlen1) fun l2 ns2 p1 p2 p3 p4 => ?_
      simp [sizeLine, -List.lookup_eq_none_iff]
      have := h b e true l2 ns2 p1 (p2.trans q2) p3 (by rw [p2]; exact q4) (by rw [p2]; exact q5) q6 q7 (by rw [p4]; show _ = FlR.mk (fL a [] [] true ns).b (fL a [] [] true ns).e true (lkF (fL a [] [] true ns).ns (fL a [] [] true ns).b (fL a [] [] true ns).e); rw [← q8])
      simpa [ilD] using this
  | eit a b =>
    cases d with
    | zero => exact ok.elim
    | succ d =>
      have hlen : (lvI (.eit a b)).length = (lvL a).length + (lvL b).length := by
        show (lvL a ++ lvL b).length = _
        rw [List.length_append]
      rw [hlen] at cap h
      unfold m_Flow_item
      rw [wF_defN, wS_seq]
      simp [pdI, -List.lookup_eq_none_iff]
      rw [wS_seq]
      simp [-List.lookup_eq_none_iff]
      refine hL d rfl a l ns _ ok.1.1 hl (by omega) hk fun b1 e1 bare1 l1 ns1 q1 q2 q3 q4 q5 q6 q7 q8 => ?_
      simp [-List.lookup_eq_none_iff]
      refine hL d rfl b l1 ns1 _ ok.2.1 q1 (by omega) q3 fun b2 e2 bare2 l2 ns2 p1 p2 p3 p4 p5 p6 p7 p8 => ?_
      have hz1 : b1.length + b2.length ≤ 16777216 := by omega
      have hz2 : e1.length + e2.length ≤ 16777216 := by omega
      have fin := h (b1 ++ b2) (e1 ++ e2) (bare1 || bare2) l2 ns2 p1 (by omega) p3 (inB_app (inB_mono q4 (by omega)) p4) (inB_app (inB_mono q5 (by omega)) p5) (by rw [List.length_append]; omega) (by rw [List.length_append]; omega) (by
        show _ = FlR.mk ((fL a [] [] true ns).b ++ (fL b [] [] true (fL a [] [] true ns).ns).b) ((fL a [] [] true ns).e ++ (fL b [] [] true (fL a [] [] true ns).ns).e) ((fL a [] [] true ns).bare || (fL b [] [] true (fL a [] [] true ns).ns).bare) (fL b [] [] true (fL a [] [] true ns).ns).ns
        rw [← q8]
        show _ = FlR.mk (b1 ++ (fL b [] [] true ns1).b) (e1 ++ (fL b [] [] true ns1).e) (bare1 || (fL b [] [] true ns1).bare) (fL b [] [] true ns1).ns
        rw [← p8])
      simp [ilD] at fin ⊢
      cases bare1 with
      | true => simpa [sizeLine, hz1, hz2] using fin
      | false => simpa [sizeLine, hz1, hz2] using fin
theorem fitems_spec {m : Int} {N : Nat} {rI rL : List O → FR} {d : Nat} (hN : N ≤ 1000000) (hI : SpecFI m N rI d) : SpecFL m N (defN 7 [true, false] (m_Flow_items rI rL)) d := by
  intro its l ns Q ok hl cap hk h
  unfold m_Flow_items
  rw [wF_defN, wS_seq]
  simp [sizeLine, -List.lookup_eq_none_iff]
  rw [wS_seq]
  simp [-List.lookup_eq_none_iff]
  have go : ∀ (js : Its) (l : O) (ns0 : List (List Int)) (b e : List Int) (bare : Bool) (k : Nat) (x5 x6 x7 x8 : O) (nx : List O → Prop) (rt : O → List O → Prop), okL m js d → nsO l ns0 → ns0.length + (lvL js).length ≤ N → okN N ns0 → inB' ns0.length b → inB' ns0.length e → b.length ≤ k → e.length ≤ k → k ≤ ns0.length →
      (∀ b' e' bare' l' ns' x5 x6 x7 x8, nsO l' ns' → ns'.length = ns0.length + (lvL js).length → okN N ns' → inB' ns'.length b' → inB' ns'.length e' → b'.length ≤ k + (lvL js).length → e'.length ≤ k + (lvL js).length → FlR.mk b' e' bare' ns' = fL js b e bare ns0 → nx [.ins 1 (flF l'), .fz (.tuple (pdL its)), .fz (.list (b'.map .int)), .fz (.list (e'.map .int)), .fz (.bool bare'), x5, x6, x7, x8]) →
      wS (forGo (fName 5) (sSeq (sAsg (fTup 3 (fCons (fName 6) (fCons (fName 7) (fCons (fName 8) fNil)))) (frzM (mMeth 1 0 "item" rI [none] (mCons (mLift (qVar 5)) mNil)))) (sSeq (sDrop (mMeth 1 0 "linked" f_Flow_linked [none, none] (mCons (mLift (qVar 3)) (mCons (mLift (qVar 6)) mNil)))) (sSeq (sSet 2 (mLift (qIf (qB (qVar 4)) (qOp oAdd (qVar 2) (qVar 6)) (qVar 2)))) (sSeq (sSet 3 (mLift (qIf (qB (qVar 8)) (qOp oAdd (qVar 3) (qVar 7)) (qVar 7)))) (sSet 4 (mLift (qAndV (qVar 4) (qVar 8)))))))) (pdL js) [.ins 1 (flF l), .fz (.tuple (pdL its)), .fz (.list (b.map .int)), .fz (.list (e.map .int)), .fz (.bool bare), x5, x6, x7, x8]) nx rt (fun _ => False) (fun _ => False) := by
    intro js
    induction js using Its.rec (motive_1 := fun _ => True) with
    | nil =>
      intro l ns0 b e bare k x5 x6 x7 x8 nx rt _ h1 _ h2 h3 h4 h5 h6 _ hn
      exact hn b e bare l ns0 x5 x6 x7 x8 h1 rfl h2 h3 h4 h5 h6 rfl
    | cons x js _ ih =>
      intro l ns0 b e bare k x5 x6 x7 x8 nx rt ok h1 cap h2 h3 h4 h5 h6 h7 hn
      have hlen : (lvL (.cons x js)).length = (lvI x).length + (lvL js).length := by
        show (lvI x ++ lvL js).length = _
        rw [List.length_append]
      rw [hlen] at cap hn
      show wS (forGo _ _ (pdI x :: pdL js) _) _ _ _ _
      rw [wS_forCons]
      refine ⟨_, rfl, ?_⟩
      rw [wS_seq]
      simp [-List.lookup_eq_none_iff]
      refine hI x l ns0 _ ok.1 h1 (by omega) h2 fun b1 e1 bare1 l1 ns1 q1 q2 q3 q4 q5 q6 q7 q8 => ?_
      simp [ilD, -List.lookup_eq_none_iff]
      rw [wS_seq]
      simp [-List.lookup_eq_none_iff]
      refine linked_spec hN q1 q3 (inB_mono h4 (by omega)) (inB_mono q4 (by omega)) fun l2 ns2 p1 p2 p3 p4 => ?_
      have hz1 : b.length + b1.length ≤ 16777216 := by omega
      have hz2 : e.length + e1.length ≤ 16777216 := by omega
      have n1 : inB' ns2.length (b ++ b1) := by rw [p2]; exact inB_app (inB_mono h3 (by omega)) q4
      have n2 : inB' ns2.length (e ++ e1) := by rw [p2]; exact inB_app (inB_mono h4 (by omega)) q5
      have n3 : inB' ns2.length b := by rw [p2]; exact inB_mono h3 (by omega)
      have n4 : inB' ns2.length e1 := by rw [p2]; exact q5
      have step : ∀ (b' e' : List Int) (bare' : Bool) (x5 x6 x7 x8 : O), inB' ns2.length b' → inB' ns2.length e' → b'.length ≤ k + (lvI x).length → e'.length ≤ k + (lvI x).length → fL js b' e' bare' ns2 = fL (.cons x js) b e bare ns0 → wS (forGo (fName 5) (sSeq (sAsg (fTup 3 (fCons (fName 6) (fCons (fName 7) (fCons (fName 8) fNil)))) (frzM (mMeth 1 0 "item" rI [none] (mCons (mLift (qVar 5)) mNil)))) (sSeq (sDrop (mMeth 1 0 "linked" f_Flow_linked [none, none] (mCons (mLift (qVar 3)) (mCons (mLift (qVar 6)) mNil)))) (sSeq (sSet 2 (mLift (qIf (qB (qVar 4)) (qOp oAdd (qVar 2) (qVar 6)) (qVar 2)))) (sSeq (sSet 3 (mLift (qIf (qB (qVar 8)) (qOp oAdd (qVar 3) (qVar 7)) (qVar 7)))) (sSet 4 (mLift (qAndV (qVar 4) (qVar 8)))))))) (pdL js) [.ins 1 (flF l2), .fz (.tuple (pdL its)), .fz (.list (b'.map .int)), .fz (.list (e'.map .int)), .fz (.bool bare'), x5, x6, x7, x8]) nx rt (fun _ => False) (fun _ => False) := by
        intro b' e' bare' x5 x6 x7 x8 g1 g2 g3 g4 g5
        refine ih l2 ns2 b' e' bare' (k + (lvI x).length) x5 x6 x7 x8 nx rt ok.2 p1 (by omega) p3 g1 g2 g3 g4 (by omega) fun b2 e2 bare2 l3 ns3 x5 x6 x7 x8 r1 r2 r3 r4 r5 r6 r7 r8 => ?_
        exact hn b2 e2 bare2 l3 ns3 x5 x6 x7 x8 r1 (by omega) r3 r4 r5 (by omega) (by omega) (r8.trans g5)
      simp [-List.lookup_eq_none_iff]
      rw [wS_seq]
      cases bare with
      | true =>
        simp [hz1, sizeLine, -List.lookup_eq_none_iff]
        rw [wS_seq]
        cases bare1 with
        | true =>
          simp [hz2, sizeLine, -List.lookup_eq_none_iff]
          have := step (b ++ b1) (e ++ e1) true (.fz (pdI x)) (.fz (.list (b1.map .int))) (.fz (.list (e1.map .int))) (.fz (.bool true)) n1 n2 (by rw [List.length_append]; omega) (by rw [List.length_append]; omega) (by rw [p4]; show fL js _ _ _ _ = fL js (if _ then _ else _) _ _ _; rw [← q8]; rfl)
          simpa using this
        | false =>
          simp [sizeLine, -List.lookup_eq_none_iff]
          have := step (b ++ b1) e1 false (.fz (pdI x)) (.fz (.list (b1.map .int))) (.fz (.list (e1.map .int))) (.fz (.bool false)) n1 n4 (by rw [List.length_append]; omega) (by omega) (by rw [p4]; show fL js _ _ _ _ = fL js (if _ then _ else _) _ _ _; rw [← q8]; rfl)
          simpa using this
      | false =>
        simp [sizeLine, -List.lookup_eq_none_iff]
        rw [wS_seq]
        cases bare1 with
        | true =>
          simp [hz2, sizeLine, -List.lookup_eq_none_iff]
          have := step b (e ++ e1) false (.fz (pdI x)) (.fz (.list (b1.map .int))) (.fz (.list (e1.map .int))) (.fz (.bool true)) n3 n2 (by omega) (by rw [List.length_append]; omega) (by rw [p4]; show fL js _ _ _ _ = fL js (if _ then _ else _) _ _ _; rw [← q8]; rfl)
          simpa using this
        | false =>
          simp [sizeLine, -List.lookup_eq_none_iff]
          have := step b e1 false (.fz (pdI x)) (.fz (.list (b1.map .int))) (.fz (.list (e1.map .int))) (.fz (.bool false)) n3 n4 (by omega) (by omega) (by rw [p4]; show fL js _ _ _ _ = fL js (if _ then _ else _) _ _ _; rw [← q8]; rfl)
          simpa using this
    | _ => trivial
  refine go its l ns [] [] true 0 _ _ _ _ _ _ ok hl cap hk (fun e he => by cases he) (fun e he => by cases he) (Nat.le_refl _) (Nat.le_refl _) (Nat.zero_le _) fun b e bare l' ns' x5 x6 x7 x8 q1 q2 q3 q4 q5 q6 q7 q8 => ?_
  simp [sizeLine, -List.lookup_eq_none_iff]
  have := h b e bare l' ns' q1 q2 q3 q4 q5 (by omega) (by omega) q8
  simpa [ilD] using this
theorem grp_flow {m : Int} {N : Nat} (hN : N ≤ 1000000) : ∀ (d n : Nat), 2 * d + 2 ≤ n → SpecFL m N (grp_Flow_item n 1) d
  | d, 0, h => by omega
  | d, 1, h => by omega
  | 0, n + 2, h => fitems_spec (rI := grp_Flow_item (n + 1) 0) (rL := grp_Flow_item (n + 1) 1) hN (fitem_spec (rI := grp_Flow_item n 0) (rL := grp_Flow_item n 1) hN fun d' e => by omega)
  | d + 1, n + 2, h => fitems_spec (rI := grp_Flow_item (n + 1) 0) (rL := grp_Flow_item (n + 1) 1) hN (fitem_spec (rI := grp_Flow_item n 0) (rL := grp_Flow_item n 1) hN fun d' e => by
    have e' : d' = d := by omega
    subst e'
    exact grp_flow hN d' n (by omega))
end FM
namespace FM
open PySem PySem.Spec L2 PyProof.Rows
/-! ### what comes behind -/
def dD (ks : List Int) : PD := .dict ((ks.map kvT).map kp)
theorem toPDs_dc : ∀ ns : List (List Int), toPDs (ns.map dcO) = some (ns.map dD)
  | [] => rfl
  | k :: r => by
    show (match toPD (dcO k), toPDs (r.map dcO) with
      | some d, some ds => some (d :: ds)
      | _, _ => none) = _
    rw [toPDs_dc r]
    rfl
theorem nsO_pd {l : O} {ns : List (List Int)} (h : nsO l ns) : toPD l = some (.list (ns.map dD)) := by
  by_cases hn : ns = []
  · subst hn
    unfold nsO at h
    cases l with
    | lst ds =>
      have h := Option.some.inj h
      cases ds with
      | nil => rfl
      | cons d ds => cases h
    | nst os =>
      have h := Option.some.inj h
      rw [h]
      rfl
    | _ => cases h
  · rw [nsO_nst h hn]
    show (toPDs (ns.map dcO)).map PyData.list = _
    rw [toPDs_dc]
    rfl
theorem intK_kv : ∀ ks : List Int, intK (ks.map kvT) = some ks
  | [] => rfl
  | k :: r => by
    show (intK (r.map kvT)).map (k :: ·) = _
    rw [intK_kv r]
    rfl
theorem dkI_d {ks : List Int} : dkI (.fz (dD ks)) = some ks := by
  cases ks with
  | nil => rfl
  | cons k r =>
    show (match dicK (.fz (dD (k :: r))) with
      | some ds => intK ds
      | none => none) = _
    have e : dicK (.fz (dD (k :: r))) = some ((k :: r).map kvT) := by
      show unkp (((k :: r).map kvT).map kp) = _
      rw [unkp_kp]
    rw [e]
    exact intK_kv _
theorem oSortV_dD {ks : List Int} : oSortV [.fz (dD ks)] = some (.lst ((sortI ks).map .int)) := oSortV_d rfl dkI_d
theorem lcGo_list {α : Type} {f : QG} {e : QE} {ρ : List O} {g h : α → PD} {xs : List α} (hx : ∀ x ∈ xs, ∃ ρ1, f (g x) ρ = some ρ1 ∧ e ρ1 = some (.fz (h x))) : lcGo f qYes e ρ (xs.map g) = some (xs.map h) := by
  induction xs with
  | nil => rfl
  | cons x r ih =>
    obtain ⟨ρ1, h1, h2⟩ := hx x List.mem_cons_self
    rw [List.map_cons, lcGo_cons, h1]
    simp only [qYes, h2]
    rw [ih fun y hy => hx y (List.mem_cons_of_mem _ hy)]
    rfl
theorem okP_len {ts : List (Int × Int)} {its : Its} {d : Nat} (ok : okP' ts its d) : (lvL its).length ≤ 786432 := by
  obtain ⟨o1, o2, o3, o4, o5⟩ := ok
  have h1 := lvL_len o2
  have h2 := Nat.mul_le_mul_right (32 ^ d) o4
  have h3 : 32 ^ d ≤ 32 ^ 3 := Nat.pow_le_pow_right (by decide) o3
  have : (32 : Nat) ^ 3 = 32768 := by decide
  omega
def nxF (its : Its) : List (List Int) := (fL its [] [] true []).ns.map sortI
def nxP (N : Nat) (its : Its) (o : O) (outs : List O) : Prop := ∃ ns : List (List Int), toPD o = some (.list (ns.map ilD)) ∧ ns.length = N ∧ okN N ns ∧ ns = nxF its
theorem next_ok {ts : List (Int × Int)} {its : Its} {d : Nat} (ok : okP' ts its d) : ∃ ns : List (List Int), qOf f_next_rows [prgD ts its] = some (.list (ns.map ilD)) ∧ ns.length = (lvL its).length ∧ okN (lvL its).length ns ∧ ns = nxF its := by
  have hlen := okP_len ok
  have h : wF (f_next_rows [.fz (prgD ts its)]) (nxP (lvL its).length its) := by
    unfold f_next_rows m_next_rows
    rw [wF_defN, wS_seq]
    simp [flow_init, wF, -List.lookup_eq_none_iff]
    rw [wS_seq]
    simp [prgD, -List.lookup_eq_none_iff]
    refine grp_flow (N := (lvL its).length) (by omega) d 45 (by have := ok.2.2.1; omega) its (.lst []) [] _ ok.2.1 rfl (by simp) (fun ks hks => by cases hks) fun b e bare l ns q1 q2 q3 q4 q5 q6 q7 q8 => ?_
    have hp := nsO_pd q1
    have hf : frzFs (flF l) = some (flF (.fz (.list (ns.map dD)))) := by
      show (match toPD l, frzFs [] with
        | some d, some r' => some ((("nexts" : Str), O.fz d) :: r')
        | _, _ => none) = _
      rw [hp]
      rfl
    have hz : ns.length ≤ 16777216 := by
      rw [q2]
      show 0 + _ ≤ _
      omega
    have lc : ∀ a b : O, lcGo (fName 2) qYes (qFz (qCb oSortV (qCons (qVar 2) qNil))) [a, b, .dead] (ns.map dD) = some (ns.map fun ks => ilD (sortI ks)) := by
      intro a b
      refine lcGo_list fun ks _ => ⟨_, rfl, ?_⟩
      simp [oSortV_dD]
    simp [frzIO, hf, hz, lc, sizeLine, -List.lookup_eq_none_iff]
    refine ⟨ns.map sortI, ?_, by rw [List.length_map, q2]; simp, fun ks hks => ?_, by unfold nxF; rw [← q8]⟩
    · simp [Function.comp_def]
    · obtain ⟨k0, hk, rfl⟩ := List.mem_map.mp hks
      exact sortI_ok (q3 k0 hk)
  unfold qOf
  show ∃ ns : List (List Int), (match f_next_rows [.fz (prgD ts its)] with
    | .ret o _ => toPD o
    | _ => none) = _ ∧ _
  cases e : f_next_rows [.fz (prgD ts its)] with
  | ret o outs =>
    rw [e] at h
    obtain ⟨ns, h1, h2, h3, h4⟩ := h
    exact ⟨ns, h1, h2, h3, h4⟩
  | _ => rw [e] at h; exact h.elim
end FM
namespace FM
open PySem PySem.Spec L2 PyProof.Rows
/-! ### what is read on -/
def rAt (R : List It) (o : Int) : It := R.getD o.toNat (.give 0)
def kAt (kn : List (List Int)) (o : Int) : List Int := kn.getD o.toNat []
def rdP (R : List It) (kn : List (List Int)) (o x : Int) : Prop := x ∈ rdI (rAt R o) ∨ (x ∈ kAt kn o ∧ wrI (rAt R o) ≠ some x)
theorem withI_mem {l : List Int} {t y : Int} : y ∈ withI l t ↔ y ∈ l ∨ y = t := by
  unfold withI
  split
  · rename_i h
    exact ⟨.inl, fun z => z.elim id fun e => e ▸ h⟩
  · rw [List.mem_append, List.mem_singleton]
theorem oNe_wD {t : Int} {w : Option Int} : oNe (.fz (.int t)) (.fz (wD w)) = some (.fz (.bool (decide (w ≠ some t)))) := by
  cases w with
  | none => simp [wD, oNe, oNeD, strs2, SeqAt.shaped, PyData.canLay0, PyData.depth, PyData.eqv]
  | some x =>
    show oNe (.fz (.int t)) (.fz (.int x)) = _
    rw [oNe_i]
    simp [eq_comm]
theorem readon_spec {m : Int} {R : List It} {kn : List (List Int)} {os : List Int} {Q : O → List O → Prop} (hm : m ≤ 20) (hR : ∀ y ∈ R, lfI m y) (hk : ∀ ks ∈ kn, okW m ks) (hl : kn.length = R.length) (ho : inB' R.length os)
    (h : ∀ res, okW m res → res.Pairwise (· ≤ ·) → (∀ x, x ∈ res ↔ ∃ o ∈ os, rdP R kn o x) → Q (.lst (res.map .int)) [.dead, .dead, .lst (kn.map ilD)]) : wF (f_read_on [.fz (.list (R.map pdI)), .fz (.list (os.map .int)), .lst (kn.map ilD)]) Q := by
  have hat : ∀ o : Int, 0 ≤ o ∧ o < R.length → atI (R.map pdI) o = some (pdI (rAt R o)) ∧ atI (kn.map ilD) o = some (ilD (kAt kn o)) ∧ lfI m (rAt R o) ∧ okW m (kAt kn o) := by
    intro o ⟨h0, h1⟩
    have h2 : o.toNat < R.length := by omega
    have h3 : o.toNat < kn.length := by omega
    refine ⟨?_, ?_, ?_, ?_⟩
    · rw [atI_nn h0, List.getElem?_map, List.getElem?_eq_getElem h2]
      simp [rAt, h2]
    · rw [atI_nn h0, List.getElem?_map, List.getElem?_eq_getElem h3]
      simp [kAt, h3]
    · have : rAt R o = R[o.toNat] := by simp [rAt, h2]
      rw [this]
      exact hR _ (List.getElem_mem h2)
    · have : kAt kn o = kn[o.toNat] := by simp [kAt, h3]
      rw [this]
      exact hk _ (List.getElem_mem h3)
  unfold f_read_on m_read_on
  rw [wF_defN, wS_seq]
  simp [sizeLine]
  rw [wS_seq]
  simp
  -- the first inner walk: what a row reads
  have inA : ∀ (ts : List Int) (F : List Int) (x4 x5 : O) (nx bk ct : List O → Prop) (rt : O → List O → Prop), okW m F → (∀ x ∈ ts, inR m x) →
      (∀ F' x5, okW m F' → (∀ x, x ∈ F' ↔ x ∈ F ∨ x ∈ ts) → nx [.fz (.list (R.map pdI)), .fz (.list (os.map .int)), .lst (kn.map ilD), .fz (.list (F'.map .int)), x4, x5]) →
      wS (forGo (fName 5) (sSet 3 (mLift (qCall (qOf f_with_one) (qCons (qVar 3) (qCons (qVar 5) qNil))))) (ts.map .int) [.fz (.list (R.map pdI)), .fz (.list (os.map .int)), .lst (kn.map ilD), .fz (.list (F.map .int)), x4, x5]) nx rt bk ct := by
    intro ts
    induction ts with
    | nil => intro F x4 x5 nx bk ct rt h1 h2 h3; exact h3 F x5 h1 (by simp)
    | cons t ts ih =>
      intro F x4 x5 nx bk ct rt h1 h2 h3
      have hF := h1.len
      rw [List.map_cons, wS_forCons]
      refine ⟨_, rfl, ?_⟩
      simp [qCall, q_with (l := F) (t := t) (by omega)]
      refine ih (withI F t) _ _ _ _ _ _ (withI_ok h1 (h2 t List.mem_cons_self)) (fun x hx => h2 x (List.mem_cons_of_mem _ hx)) fun F' x5 g1 g2 => h3 F' x5 g1 fun x => ?_
      rw [g2, withI_mem, List.mem_cons, or_assoc]
  have inB : ∀ (o : Int) (ts : List Int) (F : List Int) (x5 : O) (nx bk ct : List O → Prop) (rt : O → List O → Prop), 0 ≤ o ∧ o < R.length → okW m F → (∀ x ∈ ts, inR m x) →
      (∀ F' x5, okW m F' → (∀ x, x ∈ F' ↔ x ∈ F ∨ (x ∈ ts ∧ wrI (rAt R o) ≠ some x)) → nx [.fz (.list (R.map pdI)), .fz (.list (os.map .int)), .lst (kn.map ilD), .fz (.list (F'.map .int)), .fz (.int o), x5]) →
      wS (forGo (fName 5) (sIf (bLift (qB (qOp oNe (qVar 5) (qCall (qOf f_write_of) (qCons (qOp oIx (qVar 0) (qVar 4)) qNil))))) (sSet 3 (mLift (qCall (qOf f_with_one) (qCons (qVar 3) (qCons (qVar 5) qNil))))) sNext) (ts.map .int) [.fz (.list (R.map pdI)), .fz (.list (os.map .int)), .lst (kn.map ilD), .fz (.list (F.map .int)), .fz (.int o), x5]) nx rt bk ct := by
    intro o ts
    induction ts with
    | nil => intro F x5 nx bk ct rt h0 h1 h2 h3; exact h3 F x5 h1 (by simp)
    | cons t ts ih =>
      intro F x5 nx bk ct rt h0 h1 h2 h3
      have hF := h1.len
      obtain ⟨a1, a2, a3, a4⟩ := hat o h0
      have eW := q_write a3
      rw [List.map_cons, wS_forCons]
      refine ⟨_, rfl, ?_⟩
      by_cases c : wrI (rAt R o) = some t
      · simp [a1, qCall, eW, oNe_wD, c]
        refine ih F _ _ _ _ _ h0 h1 (fun x hx => h2 x (List.mem_cons_of_mem _ hx)) fun F' x5 g1 g2 => h3 F' x5 g1 fun x => ?_
        rw [g2, List.mem_cons]
        constructor
        · rintro (z | ⟨z1, z2⟩)
          · exact .inl z
          · exact .inr ⟨.inr z1, z2⟩
        · rintro (z | ⟨z1 | z1, z2⟩)
          · exact .inl z
          · exact absurd (z1 ▸ c) z2
          · exact .inr ⟨z1, z2⟩
      · simp [a1, qCall, eW, oNe_wD, c, q_with (l := F) (t := t) (by omega)]
        refine ih (withI F t) _ _ _ _ _ h0 (withI_ok h1 (h2 t List.mem_cons_self)) (fun x hx => h2 x (List.mem_cons_of_mem _ hx)) fun F' x5 g1 g2 => h3 F' x5 g1 fun x => ?_
        rw [g2, withI_mem, List.mem_cons]
        constructor
        · rintro ((z | z) | ⟨z1, z2⟩)
          · exact .inl z
          · exact .inr ⟨.inl z, by rw [z]; exact c⟩
          · exact .inr ⟨.inr z1, z2⟩
        · rintro (z | ⟨z1 | z1, z2⟩)
          · exact .inl (.inl z)
          · exact .inl (.inr z1)
          · exact .inr ⟨z1, z2⟩
  have outer : ∀ (cs : List Int) (F : List Int) (x4 x5 : O) (nx : List O → Prop) (rt : O → List O → Prop), okW m F → inB' R.length cs →
      (∀ F' x4 x5, okW m F' → (∀ x, x ∈ F' ↔ x ∈ F ∨ ∃ o ∈ cs, rdP R kn o x) → nx [.fz (.list (R.map pdI)), .fz (.list (os.map .int)), .lst (kn.map ilD), .fz (.list (F'.map .int)), x4, x5]) →
      wS (forGo (fName 4) (sSeq (sFor (iLift (qIfA (qCall (qOf f_reads_of) (qCons (qOp oIx (qVar 0) (qVar 4)) qNil)))) (fName 5) (sSet 3 (mLift (qCall (qOf f_with_one) (qCons (qVar 3) (qCons (qVar 5) qNil)))))) (sFor (iLift (qIfA (qOp oIx (qVar 2) (qVar 4)))) (fName 5) (sIf (bLift (qB (qOp oNe (qVar 5) (qCall (qOf f_write_of) (qCons (qOp oIx (qVar 0) (qVar 4)) qNil))))) (sSet 3 (mLift (qCall (qOf f_with_one) (qCons (qVar 3) (qCons (qVar 5) qNil))))) sNext))) (cs.map .int) [.fz (.list (R.map pdI)), .fz (.list (os.map .int)), .lst (kn.map ilD), .fz (.list (F.map .int)), x4, x5]) nx rt (fun _ => False) (fun _ => False) := by
    intro cs
    induction cs with
    | nil => intro F x4 x5 nx rt h1 h2 h3; exact h3 F x4 x5 h1 (by simp)
    | cons c cs ih =>
      intro F x4 x5 nx rt h1 h2 h3
      have h0 := h2 c List.mem_cons_self
      obtain ⟨a1, a2, a3, a4⟩ := hat c h0
      have eR := q_reads a3
      have hin : ∀ x ∈ rdI (rAt R c), inR m x := by
        intro x hx
        generalize rAt R c = y at a3 hx
        cases y with
        | row rs w => exact a3.2.1 x hx
        | give t => rw [List.mem_singleton.mp hx]; exact a3
        | back t => cases hx
        | _ => exact a3.elim
      rw [List.map_cons, wS_forCons]
      refine ⟨_, rfl, ?_⟩
      rw [wS_seq]
      simp [a1, qCall, eR]
      refine inA _ F _ _ _ _ _ _ h1 hin fun F1 x5 g1 g2 => ?_
      simp [a2, ilD]
      refine inB c _ F1 _ _ _ _ _ h0 g1 a4.2 fun F2 x5 g3 g4 => ?_
      refine ih F2 _ _ _ _ g3 (fun e he => h2 e (List.mem_cons_of_mem _ he)) fun F3 x4 x5 g5 g6 => h3 F3 x4 x5 g5 fun x => ?_
      rw [g6, g4, g2]
      constructor
      · rintro (((z | z) | z) | ⟨o, z1, z2⟩)
        · exact .inl z
        · exact .inr ⟨c, List.mem_cons_self, .inl z⟩
        · exact .inr ⟨c, List.mem_cons_self, .inr z⟩
        · exact .inr ⟨o, List.mem_cons_of_mem _ z1, z2⟩
      · rintro (z | ⟨o, z1, z2⟩)
        · exact .inl (.inl (.inl z))
        · rcases List.mem_cons.mp z1 with e | z1
          · rw [e] at z2
            rcases z2 with z2 | z2
            · exact .inl (.inl (.inr z2))
            · exact .inl (.inr z2)
          · exact .inr ⟨o, z1, z2⟩
  refine outer os [] _ _ _ _ okW_nil ho fun F x4 x5 g1 g2 => ?_
  simp [oSortV_i]
  refine h (sortI F) (sortI_ok g1) (sortI_sorted F) fun x => ?_
  rw [(sortI_perm F).mem_iff, g2]
  simp
end FM
namespace FM
open PySem PySem.Spec L2 PyProof.Rows
/-! ### until nothing changes -/
structure KN (m : Int) (R : List It) (ns kn : List (List Int)) : Prop where
  len : kn.length = R.length
  ok : ∀ ks ∈ kn, okW m ks
  srt : ∀ ks ∈ kn, ks.Pairwise (· ≤ ·)
  pf : ∀ p : Nat, p < R.length → ∀ x ∈ kn.getD p [], ∃ o ∈ ns.getD p [], rdP R kn o x
  mn : ∀ sol : List (List Int), (∀ p : Nat, p < R.length → ∀ x, (∃ o ∈ ns.getD p [], rdP R sol o x) → x ∈ sol.getD p []) → ∀ q : Nat, ∀ y ∈ kn.getD q [], y ∈ sol.getD q []
/-- nothing more comes -/
def clsd (R : List It) (ns kn : List (List Int)) (p : Nat) : Prop := ∀ x, (∃ o ∈ ns.getD p [], rdP R kn o x) → x ∈ kn.getD p []
def sumL (kn : List (List Int)) : Nat := (kn.map List.length).sum
theorem sumL_le {m : Int} (hm : m ≤ 20) : ∀ {kn : List (List Int)}, (∀ ks ∈ kn, okW m ks) → sumL kn ≤ kn.length * 20
  | [], _ => Nat.le_refl _
  | k :: r, h => by
    have h1 := (h k List.mem_cons_self).len
    have h2 := sumL_le hm (kn := r) fun ks z => h ks (List.mem_cons_of_mem _ z)
    unfold sumL at h2 ⊢
    rw [List.map_cons, List.sum_cons, List.length_cons]
    omega
theorem sumL_set : ∀ {kn : List (List Int)} {p : Nat} {res : List Int}, p < kn.length → sumL (kn.set p res) + (kn.getD p []).length = sumL kn + res.length
  | [], _, _, h => by simp at h
  | k :: r, 0, res, _ => by
    unfold sumL
    simp
    omega
  | k :: r, p + 1, res, h => by
    have ih := sumL_set (kn := r) (p := p) (res := res) (by simpa using h)
    unfold sumL at ih ⊢
    rw [List.set_cons_succ, List.map_cons, List.map_cons, List.sum_cons, List.sum_cons]
    have e : (k :: r).getD (p + 1) [] = r.getD p [] := by simp
    rw [e]
    omega
theorem grow_len {l r : List Int} (h1 : l.Nodup) (h2 : r.Nodup) (s1 : l.Pairwise (· ≤ ·)) (s2 : r.Pairwise (· ≤ ·)) (sub : ∀ x ∈ l, x ∈ r) (ne : r ≠ l) : l.length < r.length := by
  apply Nat.lt_of_not_le
  intro hle
  apply ne
  have back : ∀ x ∈ r, x ∈ l := fun x hx => Classical.byContradiction fun hn => by
    have := len_le_of_sub (l := x :: l) (r := r) (List.nodup_cons.mpr ⟨hn, h1⟩) fun y hy => by
      rcases List.mem_cons.mp hy with e | q
      · rw [e]; exact hx
      · exact sub y q
    rw [List.length_cons] at this
    omega
  exact sorted_unique (perm_of_mem h2 h1 fun x => ⟨back x, sub x⟩) s2 s1
theorem rdP_mono {R : List It} {kn kn' : List (List Int)} {o x : Int} (h : ∀ q : Nat, ∀ y ∈ kn.getD q [], y ∈ kn'.getD q []) (hr : rdP R kn o x) : rdP R kn' o x := by
  rcases hr with z | ⟨z1, z2⟩
  · exact .inl z
  · exact .inr ⟨h _ x z1, z2⟩
theorem getD_setL {kn : List (List Int)} {p q : Nat} {res : List Int} (hp : p < kn.length) : (kn.set p res).getD q [] = if p = q then res else kn.getD q [] := by
  rw [List.getD_eq_getElem?_getD, List.getElem?_set]
  by_cases e : p = q
  · subst e
    rw [if_pos rfl, if_pos rfl, if_pos hp]
    rfl
  · rw [if_neg e, if_neg e, List.getD_eq_getElem?_getD]
theorem KN.step {m : Int} {R : List It} {ns kn : List (List Int)} {p : Nat} {res : List Int} (K : KN m R ns kn) (hp : p < R.length) (h1 : okW m res) (h2 : res.Pairwise (· ≤ ·)) (h3 : ∀ x, x ∈ res ↔ ∃ o ∈ ns.getD p [], rdP R kn o x) :
    KN m R ns (kn.set p res) ∧ sumL kn ≤ sumL (kn.set p res) ∧ (res ≠ kn.getD p [] → sumL kn < sumL (kn.set p res)) := by
  have hp2 : p < kn.length := by rw [K.len]; exact hp
  have hsub : ∀ x ∈ kn.getD p [], x ∈ res := fun x hx => (h3 x).mpr (K.pf p hp x hx)
  have hmono : ∀ q : Nat, ∀ y ∈ kn.getD q [], y ∈ (kn.set p res).getD q [] := fun q y hy => by
    rw [getD_setL hp2]
    split
    · rename_i e
      subst e
      exact hsub y hy
    · exact hy
  have hmem : kn.getD p [] ∈ kn := by
    rw [List.getD_eq_getElem?_getD, List.getElem?_eq_getElem hp2]
    exact List.getElem_mem hp2
  have hs := sumL_set (res := res) hp2
  have hle := len_le_of_sub (K.ok _ hmem).1 hsub
  refine ⟨⟨by rw [List.length_set]; exact K.len, fun ks hks => ?_, fun ks hks => ?_, fun q hq x hx => ?_, fun sol hs q y hy => ?_⟩, by omega, fun ne => ?_⟩
  · rcases List.mem_or_eq_of_mem_set hks with z | z
    · exact K.ok ks z
    · rw [z]; exact h1
  · rcases List.mem_or_eq_of_mem_set hks with z | z
    · exact K.srt ks z
    · rw [z]; exact h2
  · rw [getD_setL hp2] at hx
    split at hx
    · rename_i e
      subst e
      obtain ⟨o, z1, z2⟩ := (h3 x).mp hx
      exact ⟨o, z1, rdP_mono hmono z2⟩
    · obtain ⟨o, z1, z2⟩ := K.pf q hq x hx
      exact ⟨o, z1, rdP_mono hmono z2⟩
  · rw [getD_setL hp2] at hy
    split at hy
    · rename_i e
      subst e
      obtain ⟨o, z1, z2⟩ := (h3 y).mp hy
      exact hs _ hp y ⟨o, z1, rdP_mono (K.mn sol hs) z2⟩
    · exact K.mn sol hs q y hy
  · have := grow_len (K.ok _ hmem).1 h1.1 (K.srt _ hmem) h2 hsub ne
    omega
theorem rgC_down {n : Nat} (h : n ≤ 1000000) : rgC ((n : Int) - 1) (-1) (-1) = true ∧ (Builtin.Range.rangeSize ((n : Int) - 1) (-1) (-1)).toNat = n := by
  have e : Builtin.Range.rangeSize ((n : Int) - 1) (-1) (-1) = n := by
    unfold Builtin.Range.rangeSize
    rw [if_neg (by decide)]
    by_cases h0 : n = 0
    · subst h0
      decide
    · rw [if_pos (by omega)]
      simp
  refine ⟨?_, by rw [e]; rfl⟩
  unfold rgC
  simp only [Bool.and_eq_true, decide_eq_true_eq]
  refine ⟨⟨by decide, by decide⟩, ?_⟩
  unfold Builtin.Range.small
  simp only [Builtin.Range.rangeFitsLong, e, Bool.and_eq_true, Bool.or_eq_true, decide_eq_true_eq, beq_iff_eq]
  exact ⟨by omega, .inr (by decide)⟩
theorem rngC_at {lo c : Int} {k i : Nat} {x : PD} (h : (rngC lo c k)[i]? = some x) : x = .int (lo + (i : Int) * c) ∧ i < k := by
  unfold rngC at h
  rw [List.getElem?_map] at h
  obtain ⟨j, e1, e2⟩ := Option.map_eq_some_iff.mp h
  obtain ⟨h1, h2⟩ := List.getElem?_eq_some_iff.mp e1
  simp at h1 h2
  subst h2
  exact ⟨e2.symm, h1⟩
theorem rngC_len {lo c : Int} {k : Nat} : (rngC lo c k).length = k := by simp [rngC]
def paV (m : Int) (R : List It) (ns : List (List Int)) (S0 i : Nat) (ρ : List O) : Prop := ∃ (kn : List (List Int)) (ch : Bool) (x3 x5 x6 : O), ρ = [.fz (.list (R.map pdI)), .fz (.list (ns.map ilD)), .lst (kn.map ilD), x3, .fz (.bool ch), x5, x6] ∧ KN m R ns kn ∧ S0 ≤ sumL kn ∧ (ch = true → S0 < sumL kn) ∧ (ch = false → ∀ p : Nat, p < R.length → R.length ≤ p + i → clsd R ns kn p)
def whV (m : Int) (R : List It) (ns : List (List Int)) (k : Nat) (ρ : List O) : Prop := ∃ (kn : List (List Int)) (ch : Bool) (x3 x5 x6 : O), ρ = [.fz (.list (R.map pdI)), .fz (.list (ns.map ilD)), .lst (kn.map ilD), x3, .fz (.bool ch), x5, x6] ∧ KN m R ns kn ∧ k = 2 * (R.length * 20 - sumL kn) + (if ch then 1 else 0) ∧ (ch = false → ∀ p : Nat, p < R.length → clsd R ns kn p)
def ahP (m : Int) (R : List It) (ns : List (List Int)) (o : O) (outs : List O) : Prop := ∃ kn : List (List Int), toPD o = some (.list (kn.map ilD)) ∧ KN m R ns kn ∧ ∀ p : Nat, p < R.length → clsd R ns kn p
theorem ahead_ok {m : Int} {R : List It} {ns : List (List Int)} (hm : m ≤ 20) (hR : ∀ y ∈ R, lfI m y) (hlen : R.length ≤ 1000000) (hn : ns.length = R.length) (hok : okN R.length ns) :
    ∃ kn : List (List Int), qOf f_read_ahead [.list (R.map pdI), .list (ns.map ilD)] = some (.list (kn.map ilD)) ∧ KN m R ns kn ∧ ∀ p : Nat, p < R.length → clsd R ns kn p := by
  have h : wF (f_read_ahead [.fz (.list (R.map pdI)), .fz (.list (ns.map ilD))]) (ahP m R ns) := by
    obtain ⟨rg, sz⟩ := rgC_down hlen
    unfold f_read_ahead m_read_ahead
    rw [wF_defN, wS_seq]
    have hz : R.length ≤ 16777216 := by omega
    have lc : ∀ a b c d e f : O, lcGo (fName 3) qYes (qFz (qLst qNil)) [a, b, c, .dead, d, e, f] (R.map pdI) = some ((R.map fun _ => ([] : List Int)).map ilD) := by
      intro a b c d e f
      rw [List.map_map]
      refine lcGo_list fun x _ => ⟨_, rfl, ?_⟩
      simp [sizeLine]
    simp [lc, hz, sizeLine]
    rw [wS_seq]
    simp
    rw [wS_seq]
    have K0 : KN m R ns (R.map fun _ => []) := ⟨by simp, fun ks hks => by
      obtain ⟨_, _, rfl⟩ := List.mem_map.mp hks
      exact okW_nil, fun ks hks => by
      obtain ⟨_, _, rfl⟩ := List.mem_map.mp hks
      exact .nil, fun p hp x hx => by
      rw [List.getD_eq_getElem?_getD, List.getElem?_map] at hx
      cases e : R[p]? <;> rw [e] at hx <;> simp at hx, fun sol _ q y hy => by
      rw [List.getD_eq_getElem?_getD, List.getElem?_map] at hy
      cases e : R[q]? <;> rw [e] at hy <;> simp at hy⟩
    refine wS_whileI (whV m R ns) (2 * (R.length * 20 - sumL (R.map fun _ => [])) + 1) ⟨R.map fun _ => [], true, .dead, .dead, .dead, by simp [Function.comp_def], K0, by simp, fun z => by cases z⟩ ?_
    rintro k ρ ⟨kn, ch, x3, x5, x6, rfl, K, hk, hcl⟩
    rw [wM_bLift]
    refine ⟨ch, by cases ch <;> simp, ⟨fun hc => ?_, fun hc => ?_⟩⟩
    · simp
      exact ⟨kn, rfl, K, hcl hc⟩
    · subst hc
      rw [wS_seq]
      simp [rg, sz]
      refine wS_forI (fun i => paV m R ns (sumL kn) i) ⟨kn, false, _, _, _, rfl, K, Nat.le_refl _, (fun z => by cases z), fun _ p h1 h2 => by omega⟩ ?_ ?_
      · rintro i x ρ ex ⟨kn1, ch1, x3, x5, x6, rfl, K1, s1, s2, s3⟩
        obtain ⟨rfl, hi⟩ := rngC_at ex
        obtain ⟨p, hp, hp2⟩ : ∃ p : Nat, (R.length : Int) - 1 + (i : Int) * (-1) = (p : Int) ∧ p < R.length := ⟨R.length - 1 - i, by omega, by omega⟩
        have hpi : p + i + 1 = R.length := by omega
        rw [hp]
        have hpn : p < ns.length := by omega
        have hpk : p < kn1.length := by rw [K1.len]; exact hp2
        have e1 : atI (ns.map ilD) (p : Int) = some (ilD (ns.getD p [])) := by
          rw [atI_nn (by omega), List.getElem?_map]
          simp [hpn]
        have e2 : atI (kn1.map ilD) (p : Int) = some (ilD (kn1.getD p [])) := by
          rw [atI_nn (by omega), List.getElem?_map]
          simp [hpk]
        have ho : inB' R.length (ns.getD p []) := fun e he => by
          have hm2 : ns.getD p [] ∈ ns := by
            rw [List.getD_eq_getElem?_getD, List.getElem?_eq_getElem hpn]
            exact List.getElem_mem hpn
          have := (hok _ hm2).2 e he
          omega
        refine ⟨_, rfl, ?_⟩
        rw [wS_seq]
        simp [e1]
        refine readon_spec hm hR K1.ok K1.len ho fun res g1 g2 g3 => ?_
        obtain ⟨K2, t1, t2⟩ := K1.step hp2 g1 g2 g3
        have es : fSetI (kn1.map ilD) (.int (p : Int)) (.list (res.map .int)) = some ((kn1.set p res).map ilD) := by
          rw [List.map_set]
          have hlt : p < (kn1.map ilD).length := by rw [List.length_map]; exact hpk
          simp [ixN, hlt, hpk]
        have ne : oNe (.fz (.list (res.map .int))) (.fz (ilD (kn1.getD p []))) = some (.fz (.bool (!decide (res = kn1.getD p [])))) := oNe_ints rfl rfl
        generalize hkp : kn1.getD p [] = kp at e2 ne t2
        simp
        rw [wS_seq]
        cases ch1 with
        | true =>
          simp [e2, ne, es, -fSetI_i]
          exact ⟨kn1.set p res, true, x3, .fz (.int (p : Int)), .fz (.list (res.map .int)), by simp, K2, by omega, (fun _ => by have := s2 rfl; omega), fun z => by cases z⟩
        | false =>
          simp [e2, ne, es, -fSetI_i]
          refine ⟨kn1.set p res, !decide (res = kp), x3, .fz (.int (p : Int)), .fz (.list (res.map .int)), by simp, K2, by omega, fun z => ?_, fun z => ?_⟩
          · have hne : res ≠ kp := by simpa using z
            have := t2 hne
            omega
          · have he : res = kp := by simpa using z
            have hs : kn1.set p res = kn1 := by
              rw [he, ← hkp, List.getD_eq_getElem?_getD, List.getElem?_eq_getElem hpk]
              exact List.set_getElem_self hpk
            rw [hs]
            intro q hq hqi x hx
            by_cases hqp : q = p
            · subst hqp
              rw [hkp, ← he]
              exact (g3 x).mpr hx
            · exact s3 rfl q hq (by omega) x hx
      · rintro ρ ⟨kn1, ch1, x3, x5, x6, rfl, K1, s1, s2, s3⟩
        have hs := sumL_le hm K1.ok
        rw [K1.len] at hs
        refine ⟨2 * (R.length * 20 - sumL kn1) + (if ch1 then 1 else 0), ?_, kn1, ch1, x3, x5, x6, rfl, K1, rfl, fun z p hp => s3 z p hp (by rw [rngC_len]; omega)⟩
        rw [hk]
        cases ch1 with
        | true =>
          have := s2 rfl
          simp
          omega
        | false =>
          simp
          omega
  unfold qOf
  show ∃ kn : List (List Int), (match f_read_ahead [.fz (.list (R.map pdI)), .fz (.list (ns.map ilD))] with
    | .ret o _ => toPD o
    | _ => none) = _ ∧ _
  cases e : f_read_ahead [.fz (.list (R.map pdI)), .fz (.list (ns.map ilD))] with
  | ret o outs =>
    rw [e] at h
    obtain ⟨kn, h1, h2, h3⟩ := h
    exact ⟨kn, h1, h2, h3⟩
  | _ => rw [e] at h; exact h.elim
end FM
namespace FM
open PySem PySem.Spec L2 PyProof.Rows
/-! ### what is alive, what is busy, exactly -/
def wzF (rows wr ho : List PD) (r : Bool) : List (Str × O) := [("rows", .fz (.list rows)), ("written", .fz (.list wr)), ("held_out", .fz (.list ho)), ("right", .fz (.bool r))]
@[simp] theorem wz_rows {rows wr ho : List PD} {r : Bool} : List.lookup ("rows" : Str) (wzF rows wr ho r) = some (.fz (.list rows)) := lu_pos rfl
@[simp] theorem wz_wr {rows wr ho : List PD} {r : Bool} : List.lookup ("written" : Str) (wzF rows wr ho r) = some (.fz (.list wr)) := (luN (by decide)).trans (lu_pos rfl)
@[simp] theorem wz_ho {rows wr ho : List PD} {r : Bool} : List.lookup ("held_out" : Str) (wzF rows wr ho r) = some (.fz (.list ho)) := (luN (by decide)).trans ((luN (by decide)).trans (lu_pos rfl))
@[simp] theorem wk_frz {rows wr ho : List PD} {r : Bool} : frzFs (wkF rows wr ho r) = some (wzF rows wr ho r) := rfl
theorem zipD_map {α β : Type} {f : α → PD} {g : β → PD} : ∀ {xs : List α} {ys : List β}, zipD (xs.map f) (ys.map g) = (xs.zip ys).map fun p => .tuple [f p.1, g p.2]
  | [], _ => by simp [zipD]
  | _ :: _, [] => by simp [zipD]
  | x :: xs, y :: ys => by
    have ih := zipD_map (f := f) (g := g) (xs := xs) (ys := ys)
    show pairD (f x) (g y) :: zipD (xs.map f) (ys.map g) = _
    rw [ih]
    rfl
theorem srtU_mem {l : List Int} {x : Int} : x ∈ srtU l ↔ x ∈ l := (sortI_perm _).mem_iff.trans nubI_mem
theorem srtU_ok {m : Int} {l r : List Int} (h1 : okW m l) (h2 : okW m r) : okW m (srtU (l ++ r)) :=
  ⟨(sortI_perm _).nodup_iff.mpr nubI_nodup, fun x hx => (List.mem_append.mp (srtU_mem.mp hx)).elim (h1.2 x) (h2.2 x)⟩
@[simp] theorem backA_n1 {outs ρ : List O} : backA [none] outs ρ = ρ := by
  cases outs with
  | nil => rfl
  | cons x xs => cases xs <;> rfl
def alF (its : Its) (kn : List (List Int)) : List (List Int) := (kn.zip (xL its [] []).ho).map fun p => srtU (p.1 ++ p.2)
def buF (y : It) (a : List Int) : List Int := match wrI y with
  | none => a
  | some t => sortI (withI a t)
def buL (its : Its) (al : List (List Int)) : List (List Int) := ((lvL its).zip al).map fun p => buF p.1 p.2
theorem alive_is {ts : List (Int × Int)} {its : Its} {d : Nat} (ok : okP' ts its d) : ∃ kn : List (List Int), KN ts.length (lvL its) (nxF its) kn ∧ (∀ p : Nat, p < (lvL its).length → clsd (lvL its) (nxF its) kn p) ∧ qOf f_alive_behind [prgD ts its] = some (.list ((alF its kn).map ilD)) ∧ (alF its kn).length = (lvL its).length ∧ ∀ a ∈ alF its kn, okW ts.length a := by
  have hlen := okP_len ok
  have hm : (ts.length : Int) ≤ 20 := by have := ok.2.2.2.2; omega
  obtain ⟨r, outs, e1⟩ := walked_ok ok
  have xo := xL_ok (m := ts.length) ok.2.1 okW_nil okW_nil
  obtain ⟨ns, n1, n2, n3, n4⟩ := next_ok ok
  obtain ⟨kn, k1, K, C⟩ := ahead_ok (R := lvL its) (ns := ns) hm (lvL_ok ok.2.1) (by omega) n2 n3
  rw [n4] at K C
  have k2 := K.len
  have k3 := K.ok
  have g2 := xo.ho
  have e2 := xo.lh
  refine ⟨kn, K, C, ?_, ?_, ?_⟩
  · generalize hgs : (xL its [] []).ho = gs at e1 g2 e2
    have hz : min kn.length gs.length ≤ 16777216 := by omega
    have lc : ∀ a b c : O, lcGo (fTup 2 (fCons (fName 3) (fCons (fName 4) fNil))) qYes (qFz (qSortSet (qOp oAdd (qVar 3) (qVar 4)))) [a, b, c, .dead, .dead] ((kn.zip gs).map fun p => .tuple [ilD p.1, ilD p.2]) = some ((kn.zip gs).map fun p => ilD (srtU (p.1 ++ p.2))) := by
      intro a b c
      refine lcGo_list fun p hp => ⟨_, by simp; rfl, ?_⟩
      obtain ⟨p1, p2⟩ := p
      have h1 := k3 p1 (List.of_mem_zip hp).1
      have h2 := g2 p2 (List.of_mem_zip hp).2
      have l1 := h1.len
      have l2 := h2.len
      have hl : p1.length + p2.length ≤ 16777216 := by omega
      have q : ∀ ρ : List O, qOp oAdd (qVar 3) (qVar 4) ρ = some (.fz (.list ((p1 ++ p2).map .int))) → qFz (qSortSet (qOp oAdd (qVar 3) (qVar 4))) ρ = some (.fz (ilD (srtU (p1 ++ p2)))) := fun ρ e => by
        have := qSortSet_i e (by rw [List.length_append]; omega)
        simp [this]
      apply q
      simp [ilD, hl, sizeLine]
    apply qof_of
    unfold f_alive_behind m_alive_behind
    simp only [List.map_cons, List.map_nil]
    rw [wF_defN, wS_seq]
    simp [e1, wF, -List.lookup_eq_none_iff]
    rw [wS_seq]
    simp [qCall, n1, k1, -List.lookup_eq_none_iff]
    have vz : viA (.fz (.list (kn.map ilD))) = some (kn.map ilD) := rfl
    have vz2 : viA (.fz (.list (gs.map ilD))) = some (gs.map ilD) := rfl
    simp [vz, vz2, zipD_map, lc, hz, sizeLine, -List.lookup_eq_none_iff]
    unfold alF
    rw [hgs]
    simp [Function.comp_def]
  · unfold alF
    rw [List.length_map, List.length_zip]
    omega
  · intro a ha
    obtain ⟨p, hp, rfl⟩ := List.mem_map.mp ha
    exact srtU_ok (k3 _ (List.of_mem_zip hp).1) (g2 _ (List.of_mem_zip hp).2)
def buV (its : Its) (al : List (List Int)) (prg : PD) (i : Nat) (ρ : List O) : Prop := ∃ (x2 x3 x4 : O), ρ = [.fz prg, .lst ((((lvL its).zip al).take i).map fun p => ilD (buF p.1 p.2)), x2, x3, x4]
theorem busy_is {ts : List (Int × Int)} {its : Its} {d : Nat} {al : List (List Int)} (ok : okP' ts its d) (a1 : qOf f_alive_behind [prgD ts its] = some (.list (al.map ilD))) (a2 : al.length = (lvL its).length) (a3 : ∀ a ∈ al, okW ts.length a) :
    qOf f_busy_behind [prgD ts its] = some (.list ((buL its al).map ilD)) := by
  apply qof_of
  have hlen := okP_len ok
  have hm : (ts.length : Int) ≤ 20 := by have := ok.2.2.2.2; omega
  obtain ⟨r, outs, e1⟩ := walked_ok ok
  have hlf := lvL_ok ok.2.1
  unfold f_busy_behind m_busy_behind
  simp only [List.map_cons, List.map_nil]
  rw [wF_defN, wS_seq]
  simp [sizeLine]
  rw [wS_seq]
  have qf : qCallF 0 f_walked "rows" (qCons (qVar 0) qNil) [.fz (prgD ts its), .lst [], .dead, .dead, .dead] = some (.fz (.list ((lvL its).map pdI))) := by
    unfold qCallF
    simp [e1, -List.lookup_eq_none_iff]
  have fz1 : fzA (.fz (.list ((lvL its).map pdI))) = some ((lvL its).map pdI) := rfl
  have fz2 : fzA (.fz (.list (al.map ilD))) = some (al.map ilD) := rfl
  simp [qf, qCall, a1, fz1, fz2, zipD_map, -List.lookup_eq_none_iff]
  refine wS_forI (buV its al (prgD ts its)) ⟨_, _, _, rfl⟩ ?_ ?_
  · rintro i x ρ ex ⟨x2, x3, x4, rfl⟩
    rw [List.getElem?_map] at ex
    obtain ⟨p, hp, rfl⟩ := Option.map_eq_some_iff.mp ex
    obtain ⟨y, a⟩ := p
    have hmem := List.mem_of_getElem? hp
    have hy := hlf y (List.of_mem_zip hmem).1
    have ha := a3 a (List.of_mem_zip hmem).2
    have hi : i < (lvL its).length := by
      have := (List.getElem?_eq_some_iff.mp hp).1
      rw [List.length_zip] at this
      omega
    have eW := q_write hy
    have hal := ha.len
    have et : (((lvL its).zip al).take (i + 1)).map (fun p => ilD (buF p.1 p.2)) = (((lvL its).zip al).take i).map (fun p => ilD (buF p.1 p.2)) ++ [ilD (buF y a)] := by
      rw [List.take_succ, hp]
      simp
    have hL : ((((lvL its).zip al).take i).map fun p => ilD (buF p.1 p.2)).length < sizeLine := by
      rw [List.length_map, List.length_take]
      unfold sizeLine
      omega
    have fin : ∀ x4 : O, buV its al (prgD ts its) (i + 1) [.fz (prgD ts its), .lst ((((lvL its).zip al).take i).map (fun p => ilD (buF p.1 p.2)) ++ [ilD (buF y a)]), .fz (pdI y), .fz (ilD a), x4] := fun x4 => ⟨_, _, _, by rw [et]⟩
    generalize (((lvL its).zip al).take i).map (fun p => ilD (buF p.1 p.2)) = L at hL fin
    have ap : ∀ d, fAppend L [d] = some (.none, L ++ [d]) := fun d => fAppend_eq hL
    refine ⟨_, by simp; rfl, ?_⟩
    rw [wS_seq]
    simp [qCall, eW]
    unfold buF at fin
    cases ew : wrI y with
    | none =>
      rw [ew] at fin
      simp [wD, oEq_N, ap]
      exact fin _
    | some t =>
      rw [ew] at fin
      have ht : inR ts.length t := by
        cases y with
        | row rs w => exact hy.2.2 t ew
        | give t => cases ew
        | back t => cases ew
        | _ => exact hy.elim
      simp [wD, oEq_N, q_with (l := a) (t := t) (by omega), oSortV_i, ap]
      exact fin _
  · rintro ρ ⟨x2, x3, x4, rfl⟩
    simp
    rw [List.take_of_length_le (by rw [List.length_map, List.length_zip]; exact Nat.le_refl _)]
    unfold buL
    rw [List.map_map]
    rfl
end FM
namespace FM
open PySem PySem.Spec L2 PyProof.Rows
open PySem.W (dataLe alike dataLt)
theorem oSortV_encP (xs : List (Int × (Int × Int))) : oSortV [.fz (.list (xs.map encP))] = some (.lst ((sortP xs).map encP)) := by
  rw [oSortV_eq, oSortU_encP]
/-! ### pairs that are busy together -/
theorem len_le_sub {α : Type} [DecidableEq α] : ∀ {l r : List α}, l.Nodup → (∀ x ∈ l, x ∈ r) → l.length ≤ r.length
  | [], _, _, _ => Nat.zero_le _
  | x :: l, r, h, s => by
    have h1 := List.nodup_cons.mp h
    have hx : x ∈ r := s x List.mem_cons_self
    have ih := len_le_sub (l := l) (r := r.erase x) h1.2 fun y m => by
      have : y ≠ x := fun e => h1.1 (e ▸ m)
      exact (List.mem_erase_of_ne this).mpr (s y (List.mem_cons_of_mem _ m))
    have := List.length_erase_of_mem hx
    have hp : 0 < r.length := List.length_pos_of_mem hx
    rw [List.length_cons]
    omega
def addP (L : List (Int × Int)) (p : Int × Int) : List (Int × Int) := if p ∈ L then L else L ++ [p]
def addV (t : Int) (L : List (Int × Int)) : List Int → List (Int × Int)
  | [] => L
  | u :: V => addV t (addP L (t, u)) V
def addB (L : List (Int × Int)) : List Int → List (Int × Int)
  | [] => L
  | t :: c => addB (addV t L c) c
def addA (L : List (Int × Int)) : List (List Int) → List (Int × Int)
  | [] => L
  | b :: B => addA (addB L b) B
theorem addP_mem {L : List (Int × Int)} {p q : Int × Int} : q ∈ addP L p ↔ q ∈ L ∨ q = p := by
  unfold addP
  by_cases h : p ∈ L
  · rw [if_pos h]
    exact ⟨.inl, fun z => z.elim id fun e => e ▸ h⟩
  · rw [if_neg h, List.mem_append, List.mem_singleton]
theorem addV_mem {t : Int} {q : Int × Int} : ∀ {V : List Int} {L : List (Int × Int)}, q ∈ addV t L V ↔ q ∈ L ∨ ∃ u ∈ V, q = (t, u)
  | [], L => by simp [addV]
  | u :: V, L => by
    have ih := addV_mem (t := t) (q := q) (V := V) (L := addP L (t, u))
    show q ∈ addV t (addP L (t, u)) V ↔ _
    rw [ih, addP_mem]
    constructor
    · rintro ((h | h) | ⟨w, m, e⟩)
      · exact .inl h
      · exact .inr ⟨u, List.mem_cons_self, h⟩
      · exact .inr ⟨w, List.mem_cons_of_mem _ m, e⟩
    · rintro (h | ⟨w, m, e⟩)
      · exact .inl (.inl h)
      · rcases List.mem_cons.mp m with z | m
        · subst z; exact .inl (.inr e)
        · exact .inr ⟨w, m, e⟩
def inPs : List Int → Int × Int → Prop
  | [], _ => False
  | t :: c, q => (∃ u ∈ c, q = (t, u)) ∨ inPs c q
theorem addB_mem {q : Int × Int} : ∀ {b : List Int} {L : List (Int × Int)}, q ∈ addB L b ↔ q ∈ L ∨ inPs b q
  | [], L => by simp [addB, inPs]
  | t :: c, L => by
    have ih := addB_mem (q := q) (b := c) (L := addV t L c)
    show q ∈ addB (addV t L c) c ↔ _
    rw [ih, addV_mem, or_assoc]
    rfl
theorem addA_mem {q : Int × Int} : ∀ {B : List (List Int)} {L : List (Int × Int)}, q ∈ addA L B ↔ q ∈ L ∨ ∃ b ∈ B, inPs b q
  | [], L => by simp [addA]
  | b :: B, L => by
    have ih := addA_mem (q := q) (B := B) (L := addB L b)
    show q ∈ addA (addB L b) B ↔ _
    rw [ih, addB_mem]
    constructor
    · rintro ((h | h) | ⟨w, m, e⟩)
      · exact .inl h
      · exact .inr ⟨b, List.mem_cons_self, h⟩
      · exact .inr ⟨w, List.mem_cons_of_mem _ m, e⟩
    · rintro (h | ⟨w, m, e⟩)
      · exact .inl (.inl h)
      · rcases List.mem_cons.mp m with z | m
        · subst z; exact .inl (.inr e)
        · exact .inr ⟨w, m, e⟩
theorem inPs_up {q : Int × Int} : ∀ {b : List Int}, b.Pairwise (· < ·) → (inPs b q ↔ q.1 ∈ b ∧ q.2 ∈ b ∧ q.1 < q.2)
  | [], _ => by simp [inPs]
  | t :: c, h => by
    have h1 := List.pairwise_cons.mp h
    have ih := inPs_up (q := q) h1.2
    show (∃ u ∈ c, q = (t, u)) ∨ inPs c q ↔ _
    rw [ih]
    constructor
    · rintro (⟨u, m, e⟩ | ⟨m1, m2, lt⟩)
      · subst e
        exact ⟨List.mem_cons_self, List.mem_cons_of_mem _ m, h1.1 u m⟩
      · exact ⟨List.mem_cons_of_mem _ m1, List.mem_cons_of_mem _ m2, lt⟩
    · rintro ⟨m1, m2, lt⟩
      rcases List.mem_cons.mp m1 with e1 | m1
      · rcases List.mem_cons.mp m2 with e2 | m2
        · omega
        · exact .inl ⟨q.2, m2, by rw [← e1]⟩
      · rcases List.mem_cons.mp m2 with e2 | m2
        · have := h1.1 _ m1
          omega
        · exact .inr ⟨m1, m2, lt⟩
/-- pairs of small numbers, none twice -/
def gdP (m : Int) (L : List (Int × Int)) : Prop := L.Nodup ∧ ∀ p ∈ L, (0 ≤ p.1 ∧ p.1 < m) ∧ 0 ≤ p.2 ∧ p.2 < m
theorem gdP_addP {m : Int} {L : List (Int × Int)} {p : Int × Int} (h : gdP m L) (hp : (0 ≤ p.1 ∧ p.1 < m) ∧ 0 ≤ p.2 ∧ p.2 < m) : gdP m (addP L p) := by
  refine ⟨?_, fun q hq => (addP_mem.mp hq).elim (h.2 q) fun e => by rw [e]; exact hp⟩
  unfold addP
  by_cases c : p ∈ L
  · rw [if_pos c]; exact h.1
  · rw [if_neg c]
    refine List.nodup_append.mpr ⟨h.1, by simp, fun a ha b hb => ?_⟩
    rw [List.mem_singleton.mp hb]
    exact fun e => c (e ▸ ha)
theorem gdP_addV {m t : Int} (ht : 0 ≤ t ∧ t < m) : ∀ {V : List Int} {L : List (Int × Int)}, gdP m L → (∀ u ∈ V, 0 ≤ u ∧ u < m) → gdP m (addV t L V)
  | [], _, h, _ => h
  | u :: V, L, h, hV => gdP_addV ht (V := V) (gdP_addP h ⟨ht, hV u List.mem_cons_self⟩) fun w mw => hV w (List.mem_cons_of_mem _ mw)
theorem gdP_addB {m : Int} : ∀ {b : List Int} {L : List (Int × Int)}, gdP m L → (∀ u ∈ b, 0 ≤ u ∧ u < m) → gdP m (addB L b)
  | [], _, h, _ => h
  | t :: c, L, h, hb => gdP_addB (b := c) (gdP_addV (hb t List.mem_cons_self) h fun w mw => hb w (List.mem_cons_of_mem _ mw)) fun w mw => hb w (List.mem_cons_of_mem _ mw)
theorem gdP_addA {m : Int} : ∀ {B : List (List Int)} {L : List (Int × Int)}, gdP m L → (∀ b ∈ B, ∀ u ∈ b, 0 ≤ u ∧ u < m) → gdP m (addA L B)
  | [], _, h, _ => h
  | b :: B, L, h, hb => gdP_addA (B := B) (gdP_addB h (hb b List.mem_cons_self)) fun w mw => hb w (List.mem_cons_of_mem _ mw)
theorem gdP_len {m : Int} {L : List (Int × Int)} (h : gdP m L) (hm : m ≤ 20) : L.length ≤ 400 := by
  have := len_le_sub (l := L) (r := (rngI 20).flatMap fun a => (rngI 20).map fun c => (a, c)) h.1 fun p hp => by
    obtain ⟨⟨h1, h2⟩, h3, h4⟩ := h.2 p hp
    rw [List.mem_flatMap]
    refine ⟨p.1, ?_, List.mem_map.mpr ⟨p.2, ?_, rfl⟩⟩
    · unfold rngI
      exact List.mem_map.mpr ⟨p.1.toNat, List.mem_range.mpr (by omega), by omega⟩
    · unfold rngI
      exact List.mem_map.mpr ⟨p.2.toNat, List.mem_range.mpr (by omega), by omega⟩
  exact Nat.le_trans this (by decide)
/-- the dict of them -/
def dpL (L : List (Int × Int)) : List (List Key × PD) := L.map fun p => ([.inl p.1, .inl p.2], .bool true)
theorem dpL_put {L : List (Int × Int)} {a b : Int} : putD (dpL L) [.inl a, .inl b] (.bool true) = dpL (addP L (a, b)) := by
  have e : ((dpL L).any fun kv => decide (kv.1 = ([.inl a, .inl b] : List Key))) = decide ((a, b) ∈ L) := by
    unfold dpL
    rw [List.any_map, Bool.eq_iff_iff, List.any_eq_true, decide_eq_true_eq]
    constructor
    · rintro ⟨p, mp, e⟩
      simp at e
      obtain ⟨e1, e2⟩ := e
      rw [← e1, ← e2]
      exact mp
    · intro mp
      exact ⟨(a, b), mp, by simp⟩
  unfold putD addP
  rw [e]
  by_cases h : (a, b) ∈ L
  · rw [if_pos (decide_eq_true h), if_pos h]
    unfold dpL
    rw [List.map_map]
    refine List.map_congr_left fun p _ => ?_
    simp only [Function.comp_apply]
    split <;> rfl
  · rw [if_neg (by simpa using h), if_neg h]
    unfold dpL
    rw [List.map_append]
    rfl
theorem dpL_len {L : List (Int × Int)} : (dpL L).length = L.length := by simp [dpL]
theorem dpL_tk {L : List (Int × Int)} : ((dpL L).map fun p => tkD p.1) = L.map thD := by
  unfold dpL
  rw [List.map_map]
  rfl
theorem sortC_th2 (xs : List (Int × Int)) : sortC (xs.map thD) = true := by
  unfold sortC
  simp only [Bool.and_eq_true, Bool.or_eq_true, List.all_eq_true, List.mem_map, forall_exists_index, and_imp, forall_apply_eq_imp_iff₂, decide_eq_true_eq]
  refine ⟨⟨fun x _ y _ => ?_, .inl fun x _ => rfl⟩, fun x _ => ⟨?_, ?_⟩⟩
  · simp [thD, alike, PySem.W.alikeAll]
  · simp [thD, PyData.depth, PyData.depthAll]
  · simp [thD, PyData.canLay0, PyData.canLayAll0]
def srtP (L : List (Int × Int)) : List (Int × Int) := L.mergeSort (dataLe false thD)
theorem srtP_perm {L : List (Int × Int)} : (srtP L).Perm L := List.mergeSort_perm _ _
theorem oSortT_dp {L : List (Int × Int)} : oSortT [.dit (dpL L)] = some (.lst ((srtP L).map thD)) := by
  show (if sortC ((dpL L).map fun p => tkD p.1) then some (O.lst (sortD ((dpL L).map fun p => tkD p.1))) else none) = _
  rw [dpL_tk, sortC_th2]
  simp only [if_true]
  congr 2
  exact (PySem.W.sort_maps (r := dataLe false thD) (s := dataLe false id) thD fun _ _ _ _ => rfl).symm
theorem srtP_sorted {L : List (Int × Int)} (h : L.Nodup) : (srtP L).Pairwise fun x y => x.1 < y.1 ∨ (x.1 = y.1 ∧ x.2 < y.2) := by
  have h1 := PySem.W.sort_pairwise (le := dataLe false thD) (PySem.W.sortLe_total (PyProof.Rows.listOrd PyProof.Rows.itemOrd) false fun b => PySem.W.keyToks (thD b)) L
  have h2 : (srtP L).Nodup := srtP_perm.nodup_iff.mpr h
  have e : (dataLe false thD) = fun p q : Int × Int => decide (p.1 < q.1 ∨ (p.1 = q.1 ∧ p.2 ≤ q.2)) := PySem.W.dataLe_ii (fun p : Int × Int => p.1) (fun p => p.2)
  refine (h1.and h2).imp fun {a b} q => ?_
  obtain ⟨q1, q2⟩ := q
  rw [e] at q1
  simp at q1
  rcases q1 with q1 | ⟨q1, q3⟩
  · exact .inl q1
  · refine .inr ⟨q1, ?_⟩
    have : a.2 ≠ b.2 := fun z => q2 (Prod.ext q1 z)
    omega
/-- as pairs of numbers -/
def natP2 (L : List (Int × Int)) : List (Nat × Nat) := (srtP L).map fun p => (p.1.toNat, p.2.toNat)
theorem natP2_prD {m : Int} {L : List (Int × Int)} (h : gdP m L) : (srtP L).map thD = (natP2 L).map prD := by
  unfold natP2
  rw [List.map_map]
  refine List.map_congr_left fun p mp => ?_
  obtain ⟨⟨h1, h2⟩, h3, h4⟩ := h.2 p (srtP_perm.mem_iff.mp mp)
  simp only [thD, prD, Function.comp_apply]
  rw [Int.toNat_of_nonneg h1, Int.toNat_of_nonneg h3]
theorem natP2_mem {m : Int} {L : List (Int × Int)} (h : gdP m L) {q : Nat × Nat} : q ∈ natP2 L ↔ ((q.1 : Int), (q.2 : Int)) ∈ L := by
  unfold natP2
  rw [List.mem_map]
  constructor
  · rintro ⟨p, mp, e⟩
    have mp := srtP_perm.mem_iff.mp mp
    obtain ⟨⟨h1, h2⟩, h3, h4⟩ := h.2 p mp
    rw [← e]
    simp only
    rw [Int.toNat_of_nonneg h1, Int.toNat_of_nonneg h3]
    exact mp
  · intro mp
    exact ⟨_, srtP_perm.mem_iff.mpr mp, by simp⟩
theorem natP2_len {L : List (Int × Int)} : (natP2 L).length = L.length := by
  unfold natP2
  rw [List.length_map, srtP_perm.length_eq]
end FM
namespace FM
open PySem PySem.Spec L2 PyProof.Rows
/-! ### a told solution is the one -/
def clsB (R : List It) (ns S : List (List Int)) : Bool := (List.range R.length).all fun p => (ns.getD p []).all fun o => (rdI (rAt R o)).all (fun x => decide (x ∈ S.getD p [])) && (kAt S o).all (fun x => decide (wrI (rAt R o) = some x) || decide (x ∈ S.getD p []))
theorem clsB_ok {R : List It} {ns S : List (List Int)} (h : clsB R ns S = true) : ∀ p : Nat, p < R.length → ∀ x, (∃ o ∈ ns.getD p [], rdP R S o x) → x ∈ S.getD p [] := by
  rintro p hp x ⟨o, ho, hr⟩
  have h1 := List.all_eq_true.mp (List.all_eq_true.mp h p (List.mem_range.mpr hp)) o ho
  rw [Bool.and_eq_true] at h1
  rcases hr with z | ⟨z1, z2⟩
  · exact of_decide_eq_true (List.all_eq_true.mp h1.1 x z)
  · have := List.all_eq_true.mp h1.2 x z1
    rw [Bool.or_eq_true] at this
    rcases this with q | q
    · exact absurd (of_decide_eq_true q) z2
    · exact of_decide_eq_true q
def jst (R : List It) (ns : List (List Int)) (D : List (Nat × Int)) (p : Nat) (x : Int) : Bool := (ns.getD p []).any fun o => decide (x ∈ rdI (rAt R o)) || (decide ((o.toNat, x) ∈ D) && !decide (wrI (rAt R o) = some x))
def drv (R : List It) (ns : List (List Int)) : List (Nat × Int) → List (Nat × Int) → List (Nat × Int)
  | [], D => D
  | q :: c, D => drv R ns c (if jst R ns D q.1 q.2 then D ++ [q] else D)
theorem drv_ok {R : List It} {ns kn : List (List Int)} (C : ∀ p : Nat, p < R.length → clsd R ns kn p) : ∀ {c D : List (Nat × Int)}, (∀ q ∈ c, q.1 < R.length) → (∀ q ∈ D, q.2 ∈ kn.getD q.1 []) → ∀ q ∈ drv R ns c D, q.2 ∈ kn.getD q.1 []
  | [], D, _, h => h
  | q :: c, D, hc, h => by
    refine drv_ok C (c := c) (fun z m => hc z (List.mem_cons_of_mem _ m)) fun z m => ?_
    split at m
    · rename_i hj
      rcases List.mem_append.mp m with m | m
      · exact h z m
      · rw [List.mem_singleton.mp m]
        obtain ⟨o, ho, hr⟩ := List.any_eq_true.mp hj
        refine C _ (hc q List.mem_cons_self) _ ⟨o, ho, ?_⟩
        rw [Bool.or_eq_true] at hr
        rcases hr with r | r
        · exact .inl (of_decide_eq_true r)
        · rw [Bool.and_eq_true] at r
          refine .inr ⟨h _ (of_decide_eq_true r.1), ?_⟩
          have := r.2
          simpa using this
    · exact h z m
def cnd (S : List (List Int)) (n : Nat) : List (Nat × Int) := (List.range n).reverse.flatMap fun p => (S.getD p []).map fun x => (p, x)
theorem cnd_lt {S : List (List Int)} {n : Nat} : ∀ q ∈ cnd S n, q.1 < n := fun q m => by
  unfold cnd at m
  rw [List.mem_flatMap] at m
  obtain ⟨p, mp, mq⟩ := m
  obtain ⟨x, _, rfl⟩ := List.mem_map.mp mq
  simpa using mp
theorem cnd_mem {S : List (List Int)} {n p : Nat} {x : Int} (hp : p < n) (h : x ∈ S.getD p []) : (p, x) ∈ cnd S n := by
  unfold cnd
  rw [List.mem_flatMap]
  exact ⟨p, by simpa using hp, List.mem_map.mpr ⟨x, h, rfl⟩⟩
def chk (R : List It) (ns S : List (List Int)) : Bool := decide (S.length = R.length) && S.all (fun l => decide (l.Pairwise (· < ·))) && clsB R ns S && (cnd S R.length).all fun q => decide (q ∈ drv R ns (cnd S R.length ++ (cnd S R.length ++ cnd S R.length)) [])
theorem kn_eq {m : Int} {R : List It} {ns kn S : List (List Int)} (K : KN m R ns kn) (C : ∀ p : Nat, p < R.length → clsd R ns kn p) (h : chk R ns S = true) : kn = S := by
  unfold chk at h
  simp only [Bool.and_eq_true, decide_eq_true_eq] at h
  obtain ⟨⟨⟨h1, h2⟩, h3⟩, h4⟩ := h
  have up := K.mn S (clsB_ok h3)
  have lo : ∀ p : Nat, p < R.length → ∀ x ∈ S.getD p [], x ∈ kn.getD p [] := fun p hp x hx => by
    have m := of_decide_eq_true (List.all_eq_true.mp h4 _ (cnd_mem hp hx))
    refine drv_ok C (fun q mq => ?_) (fun q mq => by cases mq) _ m
    rcases List.mem_append.mp mq with z | z
    · exact cnd_lt q z
    · rcases List.mem_append.mp z with z | z <;> exact cnd_lt q z
  refine List.ext_getElem (by rw [K.len, h1]) fun p g1 g2 => ?_
  have hp : p < R.length := by rw [K.len] at g1; exact g1
  have e1 : kn.getD p [] = kn[p] := by rw [List.getD_eq_getElem?_getD, List.getElem?_eq_getElem g1]; rfl
  have e2 : S.getD p [] = S[p] := by rw [List.getD_eq_getElem?_getD, List.getElem?_eq_getElem g2]; rfl
  have u := up p
  have l := lo p hp
  rw [e1, e2] at u l
  have k1 := K.ok _ (List.getElem_mem g1)
  have k2 := K.srt _ (List.getElem_mem g1)
  have s1 : (S[p]).Pairwise (· < ·) := of_decide_eq_true (List.all_eq_true.mp h2 _ (List.getElem_mem g2))
  exact sorted_unique (perm_of_mem k1.1 (s1.imp fun z => by omega) fun x => ⟨u x, l x⟩) k2 (s1.imp fun z => by omega)
/-! sorting, step by step -/
def insO (x : Int) : List Int → List Int
  | [] => [x]
  | y :: r => if x ≤ y then x :: y :: r else y :: insO x r
def insS : List Int → List Int
  | [] => []
  | x :: r => insO x (insS r)
theorem insO_perm {x : Int} : ∀ {l : List Int}, (insO x l).Perm (x :: l)
  | [] => .refl _
  | y :: r => by
    unfold insO
    split
    · exact .refl _
    · exact ((insO_perm (l := r)).cons y).trans (List.Perm.swap x y r)
theorem insO_up {x : Int} : ∀ {l : List Int}, l.Pairwise (· ≤ ·) → (insO x l).Pairwise (· ≤ ·)
  | [], _ => by simp [insO]
  | y :: r, h => by
    have h1 := List.pairwise_cons.mp h
    unfold insO
    split
    · rename_i c
      refine List.pairwise_cons.mpr ⟨fun z mz => ?_, h⟩
      rcases List.mem_cons.mp mz with e | m
      · rw [e]; exact c
      · have := h1.1 z m
        omega
    · rename_i c
      refine List.pairwise_cons.mpr ⟨fun z mz => ?_, insO_up h1.2⟩
      rcases List.mem_cons.mp (insO_perm.mem_iff.mp mz) with e | m
      · rw [e]; omega
      · exact h1.1 z m
theorem insS_perm : ∀ {l : List Int}, (insS l).Perm l
  | [] => .refl _
  | x :: r => insO_perm.trans ((insS_perm (l := r)).cons x)
theorem insS_up : ∀ {l : List Int}, (insS l).Pairwise (· ≤ ·)
  | [] => .nil
  | x :: r => insO_up insS_up
theorem sortI_ins {l : List Int} : sortI l = insS l := sorted_unique ((sortI_perm l).trans insS_perm.symm) (sortI_sorted l) insS_up
def insU (l : List Int) : List Int := insS (nubI l)
theorem srtU_ins {l : List Int} : srtU l = insU l := sortI_ins
/-- the same for pairs -/
theorem srtP_is {L r : List (Int × Int)} (h1 : L.Nodup) (h2 : L.Perm r) (h3 : r.Pairwise fun x y => x.1 < y.1 ∨ (x.1 = y.1 ∧ x.2 < y.2)) : srtP L = r := by
  have h4 := srtP_sorted h1
  have h5 : (srtP L).Perm r := srtP_perm.trans h2
  generalize srtP L = s at h4 h5
  clear h1 h2
  induction s generalizing r with
  | nil => exact h5.nil_eq
  | cons a s ih =>
    cases r with
    | nil =>
      have := h5.length_eq
      simp at this
    | cons b r =>
      have g1 := List.pairwise_cons.mp h4
      have g2 := List.pairwise_cons.mp h3
      have e : a = b := by
        rcases List.mem_cons.mp (h5.mem_iff.mp (List.mem_cons_self (a := a) (l := s))) with q | m1
        · exact q
        rcases List.mem_cons.mp (h5.mem_iff.mpr (List.mem_cons_self (a := b) (l := r))) with q | m2
        · exact q.symm
        have z1 := g2.1 a m1
        have z2 := g1.1 b m2
        omega
      subst e
      rw [ih g2.2 g1.2 ((List.perm_cons a).mp h5)]
end FM
namespace FM
open PySem PySem.Spec L2 PyProof.Rows
theorem sortI_fun : sortI = insS := funext fun l => sortI_ins
theorem srtU_fun : srtU = insU := funext fun l => srtU_ins
def wT2 (x : It) (wl : List Int) : List Int := match wrI x with
  | none => wl
  | some t => insS (withI wl t)
def gT2 (x : It) (gl : List Int) : List Int := match x with
  | .give t => insS (withI gl t)
  | .back t => gl.filter fun i => !decide (i = t)
  | _ => gl
theorem wT_eq {x : It} {wl : List Int} : wT x wl = wT2 x wl := by
  unfold wT wT2
  rw [sortI_fun]
  try (cases wrI x <;> rfl)
theorem gT_eq {x : It} {gl : List Int} : gT x gl = gT2 x gl := by
  unfold gT gT2
  rw [sortI_fun]
  try (cases x <;> rfl)
mutual
def xI2 : It → List Int → List Int → WR
  | .row rs w, wl, gl => ⟨wT2 (.row rs w) wl, gT2 (.row rs w) gl, [wl], [gT2 (.row rs w) gl]⟩
  | .give t, wl, gl => ⟨wT2 (.give t) wl, gT2 (.give t) gl, [wl], [gT2 (.give t) gl]⟩
  | .back t, wl, gl => ⟨wT2 (.back t) wl, gT2 (.back t) gl, [wl], [gT2 (.back t) gl]⟩
  | .rnd a, wl, gl => ⟨wl, gl, (xL2 a wl gl).wr, (xL2 a wl gl).ho⟩
  | .eit a b, wl, gl => ⟨(xL2 a wl gl).wl.filter fun x => decide (x ∈ (xL2 b wl gl).wl), gl, (xL2 a wl gl).wr ++ (xL2 b wl gl).wr, (xL2 a wl gl).ho ++ (xL2 b wl gl).ho⟩
def xL2 : Its → List Int → List Int → WR
  | .nil, wl, gl => ⟨wl, gl, [], []⟩
  | .cons x r, wl, gl => ⟨(xL2 r (xI2 x wl gl).wl (xI2 x wl gl).gl).wl, (xL2 r (xI2 x wl gl).wl (xI2 x wl gl).gl).gl, (xI2 x wl gl).wr ++ (xL2 r (xI2 x wl gl).wl (xI2 x wl gl).gl).wr, (xI2 x wl gl).ho ++ (xL2 r (xI2 x wl gl).wl (xI2 x wl gl).gl).ho⟩
end
mutual
theorem xI_eq : ∀ (x : It) (wl gl : List Int), xI x wl gl = xI2 x wl gl
  | .row rs w, wl, gl => by simp only [xI, xI2, wT_eq, gT_eq]
  | .give t, wl, gl => by simp only [xI, xI2, wT_eq, gT_eq]
  | .back t, wl, gl => by simp only [xI, xI2, wT_eq, gT_eq]
  | .rnd a, wl, gl => by simp only [xI, xI2, xL_eq a]
  | .eit a b, wl, gl => by simp only [xI, xI2, xL_eq a, xL_eq b]
theorem xL_eq : ∀ (a : Its) (wl gl : List Int), xL a wl gl = xL2 a wl gl
  | .nil, wl, gl => rfl
  | .cons x r, wl, gl => by simp only [xL, xL2, xI_eq x, xL_eq r]
end
def alF2 (its : Its) (kn : List (List Int)) : List (List Int) := (kn.zip (xL2 its [] []).ho).map fun p => insU (p.1 ++ p.2)
theorem alF_eq {its : Its} {kn : List (List Int)} : alF its kn = alF2 its kn := by
  unfold alF alF2
  rw [xL_eq, srtU_fun]
def buF2 (y : It) (a : List Int) : List Int := match wrI y with
  | none => a
  | some t => insS (withI a t)
def buL2 (its : Its) (al : List (List Int)) : List (List Int) := ((lvL its).zip al).map fun p => buF2 p.1 p.2
theorem buL_eq {its : Its} {al : List (List Int)} : buL its al = buL2 its al := by
  unfold buL buL2
  refine List.map_congr_left fun p _ => ?_
  unfold buF buF2
  rw [sortI_fun]
  try (cases wrI p.1 <;> rfl)
def nxF2 (its : Its) : List (List Int) := (fL its [] [] true []).ns.map insS
theorem nxF_eq {its : Its} : nxF its = nxF2 its := by
  unfold nxF nxF2
  rw [sortI_fun]
/-! ### clashes -/
theorem cut_from {α : Type} {xs : List α} {k : Nat} : cut xs (some (k : Int)) none = xs.drop k := by
  unfold cut
  rw [HT.sIx_nat, HT.sIx_none]
  by_cases h : k ≤ xs.length
  · rw [Nat.min_eq_left h]
    exact List.take_of_length_le (by simp)
  · rw [Nat.min_eq_right (by omega), List.drop_eq_nil_of_le (Nat.le_refl _), List.drop_eq_nil_of_le (by omega)]
    simp
noncomputable abbrev clB : MS := sSetT 1 (qTup (qCons (qVar 4) (qCons (qVar 5) qNil))) (mLift (qC (.bool true)))
noncomputable abbrev clI : MS := sFor (iLift (qIfA (qSl (qVar 2) (qPart (qOp oAdd (qVar 3) (qC (.int 1)))) qNo))) (fName 5) clB
noncomputable abbrev clM : MS := sFor (iLift (qEnum (qCons (qVar 2) qNil))) (fTup 2 (fCons (fName 3) (fCons (fName 4) fNil))) clI
section
variable {m : Int} {x0 : O} {nx bk ct : List O → Prop} {rt : O → List O → Prop}
theorem cl_inner {x2 x3 : O} {t : Int} (hm : m ≤ 20) (ht : 0 ≤ t ∧ t < m) : ∀ (V : List Int) (L : List (Int × Int)) (x5 : O), gdP m L → (∀ u ∈ V, 0 ≤ u ∧ u < m) →
    (∀ x5, nx [x0, .dit (dpL (addV t L V)), x2, x3, .fz (.int t), x5]) → wS (forGo (fName 5) clB (V.map .int) [x0, .dit (dpL L), x2, x3, .fz (.int t), x5]) nx rt bk ct := by
  intro V
  induction V with
  | nil => intro L x5 _ _ h; exact h x5
  | cons u V ih =>
    intro L x5 hL hV h
    have hp := dpL_put (L := L) (a := t) (b := u)
    have hlen : (dpL L).length < 16777216 := by
      rw [dpL_len]
      have := gdP_len hL hm
      omega
    rw [List.map_cons, wS_forCons]
    refine ⟨_, rfl, ?_⟩
    unfold clB
    simp [hp, hlen, sizeLine]
    exact ih (addP L (t, u)) _ (gdP_addP hL ⟨ht, hV u List.mem_cons_self⟩) (fun w mw => hV w (List.mem_cons_of_mem _ mw)) h
theorem cl_mid {b : List Int} (hm : m ≤ 20) (hb : ∀ u ∈ b, 0 ≤ u ∧ u < m) : ∀ (c pre : List Int) (L : List (Int × Int)) (x3 x4 x5 : O), b = pre ++ c → gdP m L →
    (∀ x3 x4 x5, nx [x0, .dit (dpL (addB L c)), .fz (.list (b.map .int)), x3, x4, x5]) →
      wS (forGo (fTup 2 (fCons (fName 3) (fCons (fName 4) fNil))) clI (enumGo pre.length (c.map .int)) [x0, .dit (dpL L), .fz (.list (b.map .int)), x3, x4, x5]) nx rt bk ct := by
  intro c
  induction c with
  | nil => intro pre L x3 x4 x5 _ _ h; exact h x3 x4 x5
  | cons t c ih =>
    intro pre L x3 x4 x5 e hL h
    have hc : cut (b.map PyData.int) (some ((pre.length : Int) + 1)) none = c.map .int := by
      have := cut_from (xs := b.map PyData.int) (k := pre.length + 1)
      rw [show ((pre.length : Int) + 1) = ((pre.length + 1 : Nat) : Int) by omega, this, e, List.map_append, List.map_cons]
      rw [show pre.length + 1 = (pre.map PyData.int).length + 1 by simp, List.drop_append]
      simp
    have hbt : ∀ u ∈ t :: c, 0 ≤ u ∧ u < m := fun u mu => hb u (by rw [e]; exact List.mem_append_right _ mu)
    show wS (forGo _ _ (pairD (.int (pre.length : Int)) (.int t) :: enumGo (pre.length + 1) (c.map .int)) _) _ _ _ _
    rw [wS_forCons]
    refine ⟨_, by simp [pairD]; rfl, ?_⟩
    unfold clI
    simp [hc]
    refine cl_inner hm (hbt t List.mem_cons_self) c L _ hL (fun u mu => hbt u (List.mem_cons_of_mem _ mu)) fun x5 => ?_
    have := ih (pre ++ [t]) (addV t L c) (.fz (.int (pre.length : Int))) (.fz (.int t)) x5 (by rw [e]; simp) (gdP_addV (hbt t List.mem_cons_self) hL fun u mu => hbt u (List.mem_cons_of_mem _ mu)) h
    rw [List.length_append, List.length_singleton] at this
    exact this
theorem cl_out (hm : m ≤ 20) : ∀ (B : List (List Int)) (L : List (Int × Int)) (x2 x3 x4 x5 : O), (∀ b ∈ B, ∀ u ∈ b, 0 ≤ u ∧ u < m) → gdP m L →
    (∀ x2 x3 x4 x5, nx [x0, .dit (dpL (addA L B)), x2, x3, x4, x5]) → wS (forGo (fName 2) clM (B.map ilD) [x0, .dit (dpL L), x2, x3, x4, x5]) nx rt bk ct := by
  intro B
  induction B with
  | nil => intro L x2 x3 x4 x5 _ _ h; exact h x2 x3 x4 x5
  | cons b B ih =>
    intro L x2 x3 x4 x5 hB hL h
    rw [List.map_cons, wS_forCons]
    refine ⟨_, rfl, ?_⟩
    unfold clM
    simp [ilD]
    refine cl_mid hm (hB b List.mem_cons_self) b [] L _ _ _ rfl hL fun x3 x4 x5 => ?_
    exact ih (addB L b) _ _ _ _ (fun b mb => hB b (List.mem_cons_of_mem _ mb)) (gdP_addB hL (hB b List.mem_cons_self)) h
end
theorem q_clashX {ts : List (Int × Int)} {its : Its} {B : List (List Int)} (hB : qOf f_busy_behind [prgD ts its] = some (.list (B.map ilD))) (hin : ∀ b ∈ B, ∀ u ∈ b, 0 ≤ u ∧ u < (ts.length : Int)) (hm : ts.length ≤ 20) :
    qOf f_clashes [prgD ts its] = some (.list ((srtP (addA [] B)).map thD)) := by
  have hm' : (ts.length : Int) ≤ 20 := by omega
  apply qof_of
  unfold f_clashes m_clashes
  simp only [List.map_cons, List.map_nil]
  rw [wF_defN, wS_seq]
  simp
  rw [wS_seq]
  simp [qCall, hB]
  refine cl_out hm' B [] _ _ _ _ hin ⟨.nil, fun p hp => by cases hp⟩ fun x2 x3 x4 x5 => ?_
  have e := oSortT_dp (L := addA [] B)
  simp [e]
theorem q_nextX {ts : List (Int × Int)} {its : Its} {d : Nat} (ok : okP' ts its d) : qOf f_next_rows [prgD ts its] = some (.list ((nxF its).map ilD)) := by
  obtain ⟨ns, n1, n2, n3, n4⟩ := next_ok ok
  rw [n1, n4]
end FM
namespace FM
open PySem PySem.Spec L2 PyProof.Rows
theorem same_grp : ∀ (n : Nat) {d : PD}, plainD n d → wF (grp__law_same (n + 1) 0 [.fz d, .fz d]) fun o _ => o = .fz (.bool true)
  | n, d, hd => by
    rw [grp__law_same]
    unfold m__law_same
    cases d with
    | none => simp [wS_seq]
    | bool b => simp [wS_seq]
    | int i => simp [wS_seq]
    | str x => simp [wS_seq]
    | list ds =>
      cases n with
      | zero => exact hd.elim
      | succ n =>
        have hd : ds.length ≤ sizeLine ∧ ∀ x ∈ ds, plainD n x := hd
        have hl : lcGo (fTup 2 (fCons (fName 2) (fCons (fName 3) fNil))) qYes (qCall (qOf (grp__law_same (n + 1) 0)) (qCons (qVar 2) (qCons (qVar 3) qNil))) [.fz (.list ds), .fz (.list ds), .dead, .dead] (ds.map fun x => pairD x x) = some ((ds.map fun x => pairD x x).map fun _ => .bool true) := by
          refine lcGo_map fun x m => ?_
          obtain ⟨y, m2, rfl⟩ := List.mem_map.mp m
          have ih := qof_of (f := grp__law_same (n + 1) 0) (ds := [y, y]) (d := .bool true) (wF_mono (same_grp n (hd.2 y m2)) fun o ρ e => by rw [e]; rfl)
          simp [pairD, qCall, ih]
        rw [List.map_map] at hl
        have hb := boolsD_true ds
        simp [wS_seq, zip_self, hl, hd.1, hb, Function.comp_def]
    | tuple ds =>
      cases n with
      | zero => exact hd.elim
      | succ n =>
        have hd : ds.length ≤ sizeLine ∧ ∀ x ∈ ds, plainD n x := hd
        have hl : lcGo (fTup 2 (fCons (fName 2) (fCons (fName 3) fNil))) qYes (qCall (qOf (grp__law_same (n + 1) 0)) (qCons (qVar 2) (qCons (qVar 3) qNil))) [.fz (.tuple ds), .fz (.tuple ds), .dead, .dead] (ds.map fun x => pairD x x) = some ((ds.map fun x => pairD x x).map fun _ => .bool true) := by
          refine lcGo_map fun x m => ?_
          obtain ⟨y, m2, rfl⟩ := List.mem_map.mp m
          have ih := qof_of (f := grp__law_same (n + 1) 0) (ds := [y, y]) (d := .bool true) (wF_mono (same_grp n (hd.2 y m2)) fun o ρ e => by rw [e]; rfl)
          simp [pairD, qCall, ih]
        rw [List.map_map] at hl
        have hb := boolsD_true ds
        simp [wS_seq, zip_self, hl, hd.1, hb, Function.comp_def]
    | _ => cases n <;> exact hd.elim
theorem q_same {d : PD} (h : plainD 44 d) : qOf f__law_same [d, d] = some (.bool true) :=
  qof_of (wF_mono (same_grp 44 h) fun o ρ e => by rw [e]; rfl)
end FM
namespace FM
open PySem PySem.Spec L2 PyProof.Rows
/-! ### the pairs that are due -/
theorem perm_mem {α : Type} [DecidableEq α] : ∀ {l r : List α}, l.Nodup → r.Nodup → (∀ x, x ∈ l ↔ x ∈ r) → l.Perm r
  | [], r, _, _, h => by
    cases r with
    | nil => exact .refl _
    | cons b r => exact absurd ((h b).mpr List.mem_cons_self) (by simp)
  | a :: l, r, h1, h2, h => by
    have n1 := List.nodup_cons.mp h1
    have ma : a ∈ r := (h a).mp List.mem_cons_self
    have ih := perm_mem (l := l) (r := r.erase a) n1.2 (h2.erase a) fun x => by
      rw [h2.mem_erase_iff]
      constructor
      · intro m
        exact ⟨fun e => n1.1 (e ▸ m), (h x).mp (List.mem_cons_of_mem _ m)⟩
      · rintro ⟨ne, m⟩
        rcases List.mem_cons.mp ((h x).mpr m) with e | z
        · exact absurd e ne
        · exact z
    exact (ih.cons a).trans (List.perm_cons_erase ma).symm
def lxP (x y : Int × Int) : Prop := x.1 < y.1 ∨ (x.1 = y.1 ∧ x.2 < y.2)
theorem rngL_snoc {lo : Int} {n : Nat} : rngL lo (n + 1) = rngL lo n ++ [lo + (n : Int)] := by
  simp [rngL, List.range_succ]
theorem rngL_up {lo : Int} : ∀ {n : Nat}, (rngL lo n).Pairwise (· < ·)
  | 0 => .nil
  | n + 1 => by
    rw [rngL_snoc]
    refine List.pairwise_append.mpr ⟨rngL_up, by simp, fun a ha b hb => ?_⟩
    rw [List.mem_singleton.mp hb]
    have := rngL_mem.mp ha
    omega
def bothB (B : List (List Int)) (t u : Int) : Bool := B.any fun b => decide (t ∈ b) && decide (u ∈ b)
def dueT (B : List (List Int)) (m : Nat) (t : Int) : List (Int × Int) := ((rngL (t + 1) ((m : Int) - (t + 1)).toNat).filter (bothB B t)).map fun u => (t, u)
def dueG (B : List (List Int)) (m i : Nat) : List (Int × Int) := (rngL 0 i).flatMap (dueT B m)
theorem dueT_mem {B : List (List Int)} {m : Nat} {t : Int} {q : Int × Int} : q ∈ dueT B m t ↔ q.1 = t ∧ t < q.2 ∧ q.2 < (m : Int) ∧ bothB B t q.2 = true := by
  unfold dueT
  rw [List.mem_map]
  constructor
  · rintro ⟨u, hu, rfl⟩
    rw [List.mem_filter, rngL_mem] at hu
    exact ⟨rfl, by simp only; omega, by simp only; omega, hu.2⟩
  · rintro ⟨h1, h2, h3, h4⟩
    exact ⟨q.2, List.mem_filter.mpr ⟨rngL_mem.mpr (by omega), h4⟩, by rw [← h1]⟩
theorem dueT_up {B : List (List Int)} {m : Nat} {t : Int} : (dueT B m t).Pairwise lxP := by
  unfold dueT
  exact List.pairwise_map.mpr ((rngL_up.sublist List.filter_sublist).imp fun h => .inr ⟨rfl, h⟩)
theorem dueG_succ {B : List (List Int)} {m i : Nat} : dueG B m (i + 1) = dueG B m i ++ dueT B m (i : Int) := by
  unfold dueG
  rw [rngL_snoc, List.flatMap_append]
  simp
theorem dueG_mem {B : List (List Int)} {m i : Nat} {q : Int × Int} : q ∈ dueG B m i ↔ (0 ≤ q.1 ∧ q.1 < (i : Int)) ∧ q.1 < q.2 ∧ q.2 < (m : Int) ∧ bothB B q.1 q.2 = true := by
  unfold dueG
  rw [List.mem_flatMap]
  constructor
  · rintro ⟨t, mt, mq⟩
    obtain ⟨rfl, h2, h3, h4⟩ := dueT_mem.mp mq
    have := rngL_mem.mp mt
    exact ⟨by omega, h2, h3, h4⟩
  · rintro ⟨h1, h2, h3, h4⟩
    exact ⟨q.1, rngL_mem.mpr (by omega), dueT_mem.mpr ⟨rfl, h2, h3, h4⟩⟩
theorem dueG_up {B : List (List Int)} {m : Nat} : ∀ {i : Nat}, (dueG B m i).Pairwise lxP
  | 0 => .nil
  | i + 1 => by
    rw [dueG_succ]
    refine List.pairwise_append.mpr ⟨dueG_up, dueT_up, fun a ha b hb => ?_⟩
    have h1 := dueG_mem.mp ha
    have h2 := dueT_mem.mp hb
    exact .inl (by omega)
theorem dueG_len {B : List (List Int)} {m i : Nat} (hi : i ≤ 20) (hm : m ≤ 20) : (dueG B m i).length ≤ 400 := by
  have : gdP 20 (dueG B m i) := ⟨dueG_up.imp fun {a b} h e => by subst e; unfold lxP at h; omega, fun p hp => by
    have := dueG_mem.mp hp
    omega⟩
  exact gdP_len this (by decide)
/-- what clashes are -/
theorem clash_due {B : List (List Int)} {m : Nat} (hup : ∀ b ∈ B, b.Pairwise (· < ·)) (hin : ∀ b ∈ B, ∀ u ∈ b, 0 ≤ u ∧ u < (m : Int)) : srtP (addA [] B) = dueG B m m := by
  have g : gdP (m : Int) (addA [] B) := gdP_addA ⟨.nil, fun p hp => by cases hp⟩ hin
  have hn : (dueG B m m).Nodup := dueG_up.imp fun {a b} h e => by
    subst e
    unfold lxP at h
    omega
  refine srtP_is g.1 (perm_mem g.1 hn fun q => ?_) dueG_up
  rw [addA_mem, dueG_mem]
  constructor
  · rintro (h | ⟨b, mb, h⟩)
    · cases h
    · obtain ⟨h1, h2, h3⟩ := (inPs_up (hup b mb)).mp h
      have i1 := hin b mb _ h1
      have i2 := hin b mb _ h2
      refine ⟨i1, h3, i2.2, ?_⟩
      unfold bothB
      exact List.any_eq_true.mpr ⟨b, mb, by simp [h1, h2]⟩
  · rintro ⟨_, h3, _, h4⟩
    obtain ⟨b, mb, h⟩ := List.any_eq_true.mp h4
    simp at h
    exact .inr ⟨b, mb, (inPs_up (hup b mb)).mpr ⟨h.1, h.2, h3⟩⟩
theorem lcGo_filt {f : QG} {c : List O → Option Bool} {e : QE} {ρ : List O} {p : Int → Bool} {g : Int → PD} {ns : List Int} (h : ∀ n ∈ ns, ∃ ρ1, f (.int n) ρ = some ρ1 ∧ c ρ1 = some (p n) ∧ (p n = true → e ρ1 = some (.fz (g n)))) : lcGo f c e ρ (ns.map .int) = some ((ns.filter p).map g) := by
  induction ns with
  | nil => rfl
  | cons n r ih =>
    obtain ⟨ρ1, h1, h2, h3⟩ := h n List.mem_cons_self
    have ih := ih fun x m => h x (List.mem_cons_of_mem _ m)
    rw [List.map_cons, lcGo_cons, h1]
    simp only [h2]
    cases hp : p n with
    | false => simp [ih, hp]
    | true => simp [ih, hp, h3 hp]
theorem clashW {ts : List (Int × Int)} {its : Its} {B : List (List Int)} {Q : O → List O → Prop} (hB : qOf f_busy_behind [prgD ts its] = some (.list (B.map ilD))) (hin : ∀ b ∈ B, ∀ u ∈ b, 0 ≤ u ∧ u < (ts.length : Int)) (hm : ts.length ≤ 20)
    (h : ∀ outs, Q (.lst ((srtP (addA [] B)).map thD)) outs) : wF (f_clashes [.fz (prgD ts its)]) Q := by
  have hm' : (ts.length : Int) ≤ 20 := by omega
  unfold f_clashes m_clashes
  rw [wF_defN, wS_seq]
  simp
  rw [wS_seq]
  simp [qCall, hB]
  refine cl_out hm' B [] _ _ _ _ hin ⟨.nil, fun p hp => by cases hp⟩ fun x2 x3 x4 x5 => ?_
  have e := oSortT_dp (L := addA [] B)
  simp [e]
  exact h _
/-- busy lists are in order -/
theorem busy_up {ts : List (Int × Int)} {its : Its} {d : Nat} (ok : okP' ts its d) : ∃ kn : List (List Int), KN ts.length (lvL its) (nxF its) kn ∧ (∀ p : Nat, p < (lvL its).length → clsd (lvL its) (nxF its) kn p) ∧ qOf f_busy_behind [prgD ts its] = some (.list ((buL its (alF its kn)).map ilD)) ∧
    (buL its (alF its kn)).length = (lvL its).length ∧ (∀ b ∈ buL its (alF its kn), b.Pairwise (· < ·)) ∧ ∀ b ∈ buL its (alF its kn), ∀ u ∈ b, 0 ≤ u ∧ u < (ts.length : Int) := by
  obtain ⟨kn, K, C, a1, a2, a3⟩ := alive_is ok
  have b1 := busy_is ok a1 a2 a3
  have hlf := lvL_ok ok.2.1
  have srt : ∀ a ∈ alF its kn, a.Pairwise (· ≤ ·) := fun a ha => by
    obtain ⟨p, _, rfl⟩ := List.mem_map.mp ha
    exact sortI_sorted _
  have key : ∀ b ∈ buL its (alF its kn), okW ts.length b ∧ b.Pairwise (· ≤ ·) := fun b hb => by
    obtain ⟨p, hp, rfl⟩ := List.mem_map.mp hb
    obtain ⟨y, a⟩ := p
    have hy := hlf y (List.of_mem_zip hp).1
    have ha := a3 a (List.of_mem_zip hp).2
    have hs := srt a (List.of_mem_zip hp).2
    show okW ts.length (buF y a) ∧ (buF y a).Pairwise (· ≤ ·)
    unfold buF
    cases ew : wrI y with
    | none => exact ⟨ha, hs⟩
    | some t =>
      have ht : inR ts.length t := by
        cases y with
        | row rs w => exact hy.2.2 t ew
        | give t => cases ew
        | back t => cases ew
        | _ => exact hy.elim
      exact ⟨sortI_ok (withI_ok ha ht), sortI_sorted _⟩
  refine ⟨kn, K, C, b1, ?_, fun b hb => ?_, fun b hb u hu => (key b hb).1.2 u hu⟩
  · unfold buL
    rw [List.length_map, List.length_zip, a2]
    exact Nat.min_self _
  · exact ((key b hb).2.and (key b hb).1.1).imp fun {x y} q => by
      obtain ⟨q1, q2⟩ := q
      omega
/-- what is alive behind a row is busy there -/
theorem in_busy {ts : List (Int × Int)} {its : Its} {d p : Nat} {kn : List (List Int)} (ok : okP' ts its d) (K : KN ts.length (lvL its) (nxF its) kn) (hp : p < (lvL its).length) : ∃ b ∈ buL its (alF its kn), ∀ x ∈ kn.getD p [], x ∈ b := by
  have xo := xL_ok (m := ts.length) ok.2.1 okW_nil okW_nil
  have k2 := K.len
  have e2 := xo.lh
  have hk : p < kn.length := by omega
  have hh : p < (xL its [] []).ho.length := by omega
  have ek : kn.getD p [] = kn[p] := by rw [List.getD_eq_getElem?_getD, List.getElem?_eq_getElem hk]; rfl
  have za : srtU (kn[p] ++ (xL its [] []).ho[p]) ∈ alF its kn := by
    unfold alF
    refine List.mem_map.mpr ⟨(kn[p], (xL its [] []).ho[p]), ?_, rfl⟩
    refine List.mem_iff_getElem.mpr ⟨p, by rw [List.length_zip]; omega, ?_⟩
    rw [List.getElem_zip]
  have la : (alF its kn).length = (lvL its).length := by
    unfold alF
    rw [List.length_map, List.length_zip]
    omega
  have ea : (alF its kn)[p]'(by omega) = srtU (kn[p] ++ (xL its [] []).ho[p]) := by
    unfold alF
    rw [List.getElem_map, List.getElem_zip]
  refine ⟨buF ((lvL its)[p]) ((alF its kn)[p]'(by omega)), ?_, fun x hx => ?_⟩
  · unfold buL
    refine List.mem_map.mpr ⟨((lvL its)[p], (alF its kn)[p]'(by omega)), ?_, rfl⟩
    refine List.mem_iff_getElem.mpr ⟨p, by rw [List.length_zip]; omega, ?_⟩
    rw [List.getElem_zip]
  · rw [ek] at hx
    have hx2 : x ∈ (alF its kn)[p]'(by omega) := by
      rw [ea, srtU_mem]
      exact List.mem_append_left _ hx
    generalize (alF its kn)[p]'(by omega) = a at hx2
    unfold buF
    cases wrI ((lvL its)[p]) with
    | none => exact hx2
    | some t =>
      show x ∈ sortI (withI a t)
      rw [(sortI_perm _).mem_iff, withI_mem]
      exact .inl hx2
end FM
namespace FM
open PySem PySem.Spec L2 PyProof.Rows
section
variable {x0 x1 x2 x3 x7 x8 x9 x12 x13 x14 x15 : O} {nx bk ct : List O → Prop} {rt : O → List O → Prop}
theorem both_lc {B : List (List Int)} {t u : Int} {y4 y5 y6 : O} : lcGo (fName 11) qYes (qAndV (qOp oIn (qVar 7) (qVar 11)) (qOp oIn (qVar 10) (qVar 11))) [x0, x1, x2, x3, y4, y5, y6, .fz (.int t), x8, x9, .fz (.int u), .dead, x12, x13, x14, x15] (B.map ilD) = some (B.map fun b => .bool (decide (t ∈ b) && decide (u ∈ b))) := by
  refine lcGo_list fun b _ => ⟨_, rfl, ?_⟩
  by_cases h : t ∈ b <;> simp [ilD, oIn_ints, h]
theorem due_lc {B : List (List Int)} {m : Nat} {t : Int} {y5 y6 : O} (hl : B.length ≤ 1000000) : lcGo (fName 10) (qB (qCb oAny (qCons (qFz (qLc (qItA (qVar 4)) (fName 11) qYes (qAndV (qOp oIn (qVar 7) (qVar 11)) (qOp oIn (qVar 10) (qVar 11))) [11])) qNil))) (qTup (qCons (qVar 7) (qCons (qVar 10) qNil)))
    [x0, x1, x2, x3, .fz (.list (B.map ilD)), y5, y6, .fz (.int t), x8, x9, .dead, .dead, x12, x13, x14, x15] ((rngL (t + 1) ((m : Int) - (t + 1)).toNat).map .int) = some ((dueT B m t).map thD) := by
  have hz : B.length ≤ 16777216 := by omega
  have e : (dueT B m t).map thD = ((rngL (t + 1) ((m : Int) - (t + 1)).toNat).filter (bothB B t)).map fun u => thD (t, u) := by
    unfold dueT
    rw [List.map_map]
    rfl
  rw [e]
  refine lcGo_filt fun u _ => ⟨_, rfl, ?_, fun _ => ?_⟩
  · have l1 := fun y4 y5 y6 : O => both_lc (x0 := x0) (x1 := x1) (x2 := x2) (x3 := x3) (x8 := x8) (x9 := x9) (x12 := x12) (x13 := x13) (x14 := x14) (x15 := x15) (B := B) (t := t) (u := u) (y4 := y4) (y5 := y5) (y6 := y6)
    have ha : oAny [.fz (.list (B.map fun b => .bool (decide (t ∈ b) && decide (u ∈ b))))] = some (.fz (.bool (bothB B t u))) := oAny_map
    generalize (B.map fun b => PyData.bool (decide (t ∈ b) && decide (u ∈ b))) = bl at l1 ha
    simp [-oAny_l, l1, hz, sizeLine, ha]
  · simp [sizeLine, thD]
def dvV (x0 x1 x2 x3 x8 x9 x12 x13 x14 x15 : O) (B : List (List Int)) (m i : Nat) (ρ : List O) : Prop := ∃ x7, ρ = [x0, x1, x2, x3, .fz (.list (B.map ilD)), .fz (.int (m : Int)), .fz (.list ((dueG B m i).map thD)), x7, x8, x9, .dead, .dead, x12, x13, x14, x15]
theorem dues {B : List (List Int)} {m : Nat} (hl : B.length ≤ 1000000) (hm : m ≤ 20) (h : ∀ x7, nx [x0, x1, x2, x3, .fz (.list (B.map ilD)), .fz (.int (m : Int)), .fz (.list ((dueG B m m).map thD)), x7, x8, x9, .dead, .dead, x12, x13, x14, x15]) :
    wS (m_law_5 [x0, x1, x2, x3, .fz (.list (B.map ilD)), .fz (.int (m : Int)), .fz (.list []), x7, x8, x9, .dead, .dead, x12, x13, x14, x15]) nx rt bk ct := by
  have hb : big62 (m : Int) = true := big62_s (by omega) (by omega)
  unfold m_law_5
  simp [hb]
  refine wS_forI (dvV x0 x1 x2 x3 x8 x9 x12 x13 x14 x15 B m) ⟨_, rfl⟩ ?_ ?_
  · rintro i x ρ ex ⟨x7, rfl⟩
    obtain ⟨rfl, hi⟩ := rngD_at ex
    have hb1 : big62 ((i : Int) + 1) = true := big62_s (by omega) (by omega)
    have e0 : rngD ((i : Int) + 1) ((m : Int) - ((i : Int) + 1)).toNat = (rngL ((i : Int) + 1) ((m : Int) - ((i : Int) + 1)).toNat).map .int := rngD_L
    have l2 := fun y5 y6 : O => due_lc (x0 := x0) (x1 := x1) (x2 := x2) (x3 := x3) (x8 := x8) (x9 := x9) (x12 := x12) (x13 := x13) (x14 := x14) (x15 := x15) (B := B) (m := m) (t := (i : Int)) (y5 := y5) (y6 := y6) hl
    rw [← e0] at l2
    have hs := dueG_len (B := B) (m := m) (i := i + 1) (by omega) hm
    have es := dueG_succ (B := B) (m := m) (i := i)
    rw [es, List.length_append] at hs
    have hz1 : (dueT B m (i : Int)).length ≤ 16777216 := by omega
    have hz2 : (dueG B m i).length + (dueT B m (i : Int)).length ≤ 16777216 := by omega
    have hz0 : (m : Int) - ((i : Int) + 1) ≤ 16777216 := by omega
    refine ⟨_, rfl, ?_⟩
    simp [m_law_4, hb, hb1, l2, hz0, hz1, hz2, sizeLine]
    exact ⟨_, by rw [es, List.map_append]⟩
  · rintro ρ ⟨x7, rfl⟩
    have : (rngD 0 m).length = m := rngD_len
    rw [this]
    exact h x7
def tnV (x0 x1 x2 x3 x4 x5 x6 x7 x12 x13 x14 x15 : O) (i : Nat) (ρ : List O) : Prop := ∃ x8 x9, ρ = [x0, x1, x2, x3, x4, x5, x6, x7, x8, x9, .dead, .dead, x12, x13, x14, x15]
theorem plain_th {L : List (Int × Int)} (h : L.length ≤ 1000) : plainD 44 (.list (L.map thD)) := by
  refine ⟨by rw [List.length_map]; unfold sizeLine; omega, fun x hx => ?_⟩
  obtain ⟨p, _, rfl⟩ := List.mem_map.mp hx
  refine ⟨by simp [sizeLine], fun y hy => ?_⟩
  rcases List.mem_cons.mp hy with e | hy
  · rw [e]; trivial
  · rw [List.mem_singleton.mp hy]; trivial
theorem turns {ts : List (Int × Int)} {its : Its} {B : List (List Int)} {x4 x5 : O} (hB : qOf f_busy_behind [prgD ts its] = some (.list (B.map ilD))) (hup : ∀ b ∈ B, b.Pairwise (· < ·)) (hin : ∀ b ∈ B, ∀ u ∈ b, 0 ≤ u ∧ u < (ts.length : Int)) (hm : ts.length ≤ 20)
    (h : ∀ ρ, tnV x0 x1 x2 (.fz (prgD ts its)) x4 x5 (.fz (.list ((dueG B ts.length ts.length).map thD))) x7 x12 x13 x14 x15 0 ρ → nx ρ) :
    wS (m_law_9 [x0, x1, x2, .fz (prgD ts its), x4, x5, .fz (.list ((dueG B ts.length ts.length).map thD)), x7, x8, x9, .dead, .dead, x12, x13, x14, x15]) nx rt bk ct := by
  have hb2 : big62 2 = true := big62_s (by decide) (by decide)
  have key := fun (Q : O → List O → Prop) (h : ∀ outs, Q (.lst ((srtP (addA [] B)).map thD)) outs) => clashW hB hin hm h
  rw [clash_due hup hin] at key
  have hlen := dueG_len (B := B) (m := ts.length) (i := ts.length) hm hm
  generalize dueG B ts.length ts.length = L at *
  have sm := q_same (plain_th (L := L) (by omega))
  have ap : fAppend ((L.map thD).reverse) [.tuple [.int 0, .int 0]] = some (.none, (L.map thD).reverse ++ [.tuple [.int 0, .int 0]]) := fAppend_eq (by rw [List.length_reverse, List.length_map]; unfold sizeLine; omega)
  unfold m_law_9
  simp [hb2]
  refine wS_forI (tnV x0 x1 x2 (.fz (prgD ts its)) x4 x5 (.fz (.list (L.map thD))) x7 x12 x13 x14 x15) ⟨_, _, rfl⟩ ?_ ?_
  · rintro i x ρ ex ⟨x8, x9, rfl⟩
    refine ⟨_, rfl, ?_⟩
    rw [wS_seq]
    simp [m_law_6]
    refine key _ fun outs => ?_
    rw [wS_seq]
    simp [m_law_7, qCall, flatOs, flatO, toPDs, imm, sm]
    rw [wS_seq]
    simp [fRev, m_law_8, ap, sizeLine]
    exact ⟨_, _, rfl⟩
  · rintro ρ ⟨x8, x9, rfl⟩
    exact h _ ⟨_, _, rfl⟩
end
end FM
namespace FM
open PySem PySem.Spec L2 PyProof.Rows
/-! ### twenty things alive at once -/
def itsOf : List It → Its
  | [] => .nil
  | x :: r => .cons x (itsOf r)
theorem pdL_of : ∀ l : List It, pdL (itsOf l) = l.map pdI
  | [] => rfl
  | x :: r => by
    show pdI x :: pdL (itsOf r) = _
    rw [pdL_of r]
    rfl
theorem lvL_of : ∀ l : List It, (∀ x ∈ l, lvI x = [x]) → lvL (itsOf l) = l
  | [], _ => rfl
  | x :: r, h => by
    show lvI x ++ lvL (itsOf r) = _
    rw [lvL_of r fun y m => h y (List.mem_cons_of_mem _ m), h x List.mem_cons_self]
    rfl
theorem okL_of {m : Int} {d : Nat} : ∀ l : List It, (∀ x ∈ l, okI m x d) → okL m (itsOf l) d
  | [], _ => trivial
  | x :: r, h => ⟨h x List.mem_cons_self, okL_of r fun y m => h y (List.mem_cons_of_mem _ m)⟩
theorem len_of : ∀ l : List It, (itsOf l).len = l.length
  | [] => rfl
  | x :: r => by
    show (itsOf r).len + 1 = _
    rw [len_of r]
    rfl
def ts20 : List (Int × Int) := List.replicate 20 (1, 1)
def evL : List It := (rngL 0 20).map (fun t => It.row [] (some t)) ++ [It.row (rngL 0 20) none]
theorem ts20_ok : okT ts20 := fun p m => by
  have := List.eq_of_mem_replicate m
  subst this
  decide
theorem ev_ok : okP' ts20 (itsOf evL) 0 := by
  refine ⟨ts20_ok, okL_of _ fun x hx => ?_, by decide, by rw [len_of]; decide, by decide⟩
  unfold evL at hx
  rcases List.mem_append.mp hx with h | h
  · obtain ⟨t, mt, rfl⟩ := List.mem_map.mp h
    have := rngL_mem.mp mt
    refine ⟨by simp, (fun z mz => by cases mz), fun z e => ?_⟩
    cases e
    show inR _ _
    unfold inR
    have e20 : (ts20.length : Int) = 20 := rfl
    rw [e20]
    omega
  · rw [List.mem_singleton.mp h]
    refine ⟨by decide, (fun z mz => ?_), fun z e => by cases e⟩
    have := rngL_mem.mp mz
    unfold inR
    have e20 : (ts20.length : Int) = 20 := rfl
    rw [e20]
    omega
theorem ev_lv : lvL (itsOf evL) = evL := lvL_of _ fun x hx => by
  unfold evL at hx
  rcases List.mem_append.mp hx with h | h
  · obtain ⟨t, mt, rfl⟩ := List.mem_map.mp h
    rfl
  · rw [List.mem_singleton.mp h]
    rfl
theorem ev_nx : (nxF2 (itsOf evL)).getD 19 [] = [20] := by decide +kernel
theorem ev_last : rAt evL 20 = .row (rngL 0 20) none := rfl
theorem ev_due : ∃ B : List (List Int), qOf f_clashes [prgD ts20 (itsOf evL)] = some (.list ((dueG B 20 20).map thD)) ∧ ∀ t u : Int, 0 ≤ t → t < 20 → 0 ≤ u → u < 20 → bothB B t u = true := by
  obtain ⟨kn, K, C, b1, b2, b3, b4⟩ := busy_up ev_ok
  have hp : 19 < (lvL (itsOf evL)).length := by rw [ev_lv]; decide
  obtain ⟨b, mb, hb⟩ := in_busy ev_ok K hp
  have all : ∀ x : Int, 0 ≤ x → x < 20 → x ∈ kn.getD 19 [] := fun x h0 h1 => by
    refine C 19 hp x ⟨20, ?_, .inl ?_⟩
    · rw [nxF_eq, ev_nx]
      exact List.mem_singleton.mpr rfl
    · rw [ev_lv, ev_last]
      exact rngL_mem.mpr (by omega)
  have e20 : ts20.length = 20 := rfl
  have hc := q_clashX b1 b4 (by rw [e20]; decide)
  rw [clash_due b3 b4, e20] at hc
  refine ⟨_, hc, fun t u h1 h2 h3 h4 => ?_⟩
  unfold bothB
  exact List.any_eq_true.mpr ⟨b, mb, by simp [hb t (all t h1 h2), hb u (all u h3 h4)]⟩
theorem dueT_all {B : List (List Int)} (h : ∀ t u : Int, 0 ≤ t → t < 20 → 0 ≤ u → u < 20 → bothB B t u = true) {t : Int} (h0 : 0 ≤ t) (h1 : t < 20) : dueT B 20 t = (rngL (t + 1) ((20 : Int) - (t + 1)).toNat).map fun u => (t, u) := by
  unfold dueT
  rw [List.filter_eq_self.mpr fun u hu => ?_]
  · rfl
  · have := rngL_mem.mp hu
    exact h t u h0 h1 (by omega) (by omega)
/-! two small ones -/
theorem small_cl {ts : List (Int × Int)} {its : Its} {d : Nat} {NX KN BU : List (List Int)} {r : List (Int × Int)} (ok : okP' ts its d) (h1 : nxF2 its = NX) (h2 : chk (lvL its) NX KN = true) (h4 : buL2 its (alF2 its KN) = BU) (h5 : addA [] BU = r) (h6 : srtP r = r) :
    qOf f_clashes [prgD ts its] = some (.list (r.map thD)) := by
  obtain ⟨kn, K, C, b1, b2, b3, b4⟩ := busy_up ok
  rw [nxF_eq, h1] at K C
  have e := kn_eq K C h2
  subst e
  have hc := q_clashX b1 b4 ok.2.2.2.2
  have e : buL its (alF its kn) = BU := by rw [alF_eq, buL_eq]; exact h4
  rw [e, h5, h6] at hc
  exact hc
def tw2 : List (Int × Int) := [(1, 1), (1, 1)]
theorem tw2_ok : okT tw2 := fun p m => by
  simp [tw2] at m
  subst m
  decide
def s1L : List It := [.row [] (some 0), .row [0] (some 1), .row [1] none]
def s2L : List It := [.row [] (some 0), .row [] (some 1), .row [0, 1] none]
theorem rw_ok {m : Int} {rs : List Int} {w : Option Int} {d : Nat} (h1 : rs.length ≤ 24) (h2 : ∀ x ∈ rs, inR m x) (h3 : ∀ x, w = some x → inR m x) : okI m (.row rs w) d := by
  cases d <;> exact ⟨h1, h2, h3⟩
theorem in2 {x : Int} (h0 : 0 ≤ x) (h1 : x < 2) : inR (tw2.length : Int) x := ⟨h0, h1⟩
theorem s1_ok : okP' tw2 (itsOf s1L) 0 := by
  refine ⟨tw2_ok, okL_of _ fun x hx => ?_, by decide, by decide, by decide⟩
  simp [s1L] at hx
  rcases hx with rfl | rfl | rfl
  · exact rw_ok (by decide) (fun z m => by cases m) fun z e => by cases e; exact in2 (by decide) (by decide)
  · exact rw_ok (by decide) (fun z m => by rw [List.mem_singleton.mp m]; exact in2 (by decide) (by decide)) fun z e => by cases e; exact in2 (by decide) (by decide)
  · exact rw_ok (by decide) (fun z m => by rw [List.mem_singleton.mp m]; exact in2 (by decide) (by decide)) fun z e => by cases e
theorem s2_ok : okP' tw2 (itsOf s2L) 0 := by
  refine ⟨tw2_ok, okL_of _ fun x hx => ?_, by decide, by decide, by decide⟩
  simp [s2L] at hx
  rcases hx with rfl | rfl | rfl
  · exact rw_ok (by decide) (fun z m => by cases m) fun z e => by cases e; exact in2 (by decide) (by decide)
  · exact rw_ok (by decide) (fun z m => by cases m) fun z e => by cases e; exact in2 (by decide) (by decide)
  · refine rw_ok (by decide) (fun z m => ?_) fun z e => by cases e
    rcases List.mem_cons.mp m with e | m
    · rw [e]; exact in2 (by decide) (by decide)
    · rw [List.mem_singleton.mp m]; exact in2 (by decide) (by decide)
theorem s1_cl : qOf f_clashes [prgD tw2 (itsOf s1L)] = some (.list []) :=
  small_cl (NX := [[1], [2], []]) (KN := [[0], [1], []]) (BU := [[0], [1], []]) (r := []) s1_ok (by decide +kernel) (by decide +kernel) (by decide +kernel) (by decide +kernel) (srtP_is .nil (.refl _) .nil)
theorem s2_cl : qOf f_clashes [prgD tw2 (itsOf s2L)] = some (.list [.tuple [.int 0, .int 1]]) :=
  small_cl (NX := [[1], [2], []]) (KN := [[0], [0, 1], []]) (BU := [[0], [0, 1], []]) (r := [(0, 1)]) s2_ok (by decide +kernel) (by decide +kernel) (by decide +kernel) (by decide +kernel) (srtP_is (by simp) (.refl _) (by simp))
end FM
namespace FM
open PySem PySem.Spec L2 PyProof.Rows
theorem lay_th : ∀ l : List (Int × Int), PyData.canLayAll0 (l.map thD) = true
  | [] => by simp [PyData.canLayAll0]
  | x :: r => by simp [PyData.canLayAll0, PyData.canLay0, thD, lay_th r]
theorem dep_th : ∀ l : List (Int × Int), PyData.depthAll (l.map thD) ≤ 1
  | [] => by simp [PyData.depthAll]
  | x :: r => by
    have := dep_th r
    simp [PyData.depthAll, PyData.depth, thD]
    omega
theorem shaped_th {l : List (Int × Int)} : SeqAt.shaped (.list (l.map thD)) = true := by
  have := dep_th l
  unfold SeqAt.shaped
  simp [PyData.canLay0, PyData.depth, lay_th]
  omega
section
variable {x0 x1 x2 x3 x4 x5 x7 x8 x9 x12 x13 x14 x15 : O} {nx bk ct : List O → Prop} {rt : O → List O → Prop}
def d2V (x0 x1 x2 x3 x4 x5 x8 x9 x12 x13 x14 x15 : O) (B : List (List Int)) (i : Nat) (ρ : List O) : Prop := ∃ x7, ρ = [x0, x1, x2, x3, x4, x5, .fz (.list ((dueG B 20 i).map thD)), x7, x8, x9, .dead, .dead, x12, x13, x14, x15]
theorem dues2 {B : List (List Int)} (hB : ∀ t u : Int, 0 ≤ t → t < 20 → 0 ≤ u → u < 20 → bothB B t u = true) (h : ∀ x7, nx [x0, x1, x2, x3, x4, x5, .fz (.list ((dueG B 20 20).map thD)), x7, x8, x9, .dead, .dead, x12, x13, x14, x15]) :
    wS (m_law_14 [x0, x1, x2, x3, x4, x5, .fz (.list []), x7, x8, x9, .dead, .dead, x12, x13, x14, x15]) nx rt bk ct := by
  have hb : big62 20 = true := big62_s (by decide) (by decide)
  unfold m_law_14
  simp [hb]
  refine wS_forI (d2V x0 x1 x2 x3 x4 x5 x8 x9 x12 x13 x14 x15 B) ⟨_, rfl⟩ ?_ ?_
  · rintro i x ρ ex ⟨x7, rfl⟩
    obtain ⟨rfl, hi⟩ := rngD_at ex
    have hb1 : big62 ((i : Int) + 1) = true := big62_s (by omega) (by omega)
    have e0 : rngD ((i : Int) + 1) ((20 : Int) - ((i : Int) + 1)).toNat = (rngL ((i : Int) + 1) ((20 : Int) - ((i : Int) + 1)).toNat).map .int := rngD_L
    have l2 : ∀ y6 : O, lcGo (fName 10) qYes (qTup (qCons (qVar 7) (qCons (qVar 10) qNil))) [x0, x1, x2, x3, x4, x5, y6, .fz (.int (i : Int)), x8, x9, .dead, .dead, x12, x13, x14, x15] (rngD ((i : Int) + 1) ((20 : Int) - ((i : Int) + 1)).toNat) = some ((dueT B 20 (i : Int)).map thD) := by
      intro y6
      rw [dueT_all hB (by omega) (by omega), e0, List.map_map]
      refine lcGo_list fun u _ => ⟨_, rfl, ?_⟩
      simp [sizeLine]
      rfl
    have hs := dueG_len (B := B) (m := 20) (i := i + 1) (by omega) (by decide)
    have es := dueG_succ (B := B) (m := 20) (i := i)
    rw [es, List.length_append] at hs
    have hz1 : (dueT B 20 (i : Int)).length ≤ 16777216 := by omega
    have hz2 : (dueG B 20 i).length + (dueT B 20 (i : Int)).length ≤ 16777216 := by omega
    have hz0 : (20 : Int) - ((i : Int) + 1) ≤ 16777216 := by omega
    refine ⟨_, rfl, ?_⟩
    simp [m_law_13, hb, hb1, l2, hz0, hz1, hz2, sizeLine]
    exact ⟨_, by rw [es, List.map_append]⟩
  · rintro ρ ⟨x7, rfl⟩
    have : (rngD 0 20).length = 20 := rngD_len
    rw [this]
    exact h x7
end
def lawV (ns : List Int) (i : Nat) (ρ : List O) : Prop := ∃ x1 x2 x3 x4 x5 x6 x7 x8 x9 x12 x13 x14 x15, ρ = [.fz (.list (ns.map .int)), x1, x2, x3, x4, x5, x6, x7, x8, x9, .dead, .dead, x12, x13, x14, x15]
theorem law_end {x0 x1 x2 x3 x4 x5 x6 x7 x8 x9 x12 x13 x14 x15 : O} {nx bk ct : List O → Prop} :
    wS (sSeq m_law_11 (sSeq m_law_12 (sSeq (sSet 6 (mLift (qFz (qLst qNil)))) (sSeq m_law_14 (sSeq m_law_15 (sSeq m_law_16 m_law_17))))) [x0, x1, x2, x3, x4, x5, x6, x7, x8, x9, .dead, .dead, x12, x13, x14, x15]) nx (fun o _ => o = .fz (.bool true)) bk ct := by
  obtain ⟨B, ec, hB⟩ := ev_due
  have hb : big62 20 = true := big62_s (by decide) (by decide)
  have e0 : rngD 0 20 = (rngL 0 20).map .int := rngD_L
  have el : (rngL 0 20).length = 20 := by simp [rngL]
  have ep : pdL (itsOf evL) = ((rngL 0 20).map fun t => PyData.tuple [.str "row", .tuple [], .int t]) ++ [.tuple [.str "row", .tuple ((rngL 0 20).map .int), .none]] := by
    rw [pdL_of]
    unfold evL
    rw [List.map_append, List.map_map]
    rfl
  generalize rngL 0 20 = R at e0 el ep
  have et : ∀ ρ : List O, qTrg1 (qC (.int 20)) ρ = some (.fz (.tuple (R.map .int))) := fun ρ => by
    rw [← e0]
    exact qTrg1_n (n := 20) (by decide) rfl
  have lc : ∀ y1 y2 y3 y4 y5 y6 y8 y9 y12 y13 y14 y15 : O, lcGo (fName 7) qYes (qTup (qCons (qC (.str "row")) (qCons (qTup qNil) (qCons (qVar 7) qNil)))) [x0, y1, y2, y3, y4, y5, y6, .dead, y8, y9, .dead, .dead, y12, y13, y14, y15] (rngD 0 20) = some (R.map fun t => .tuple [.str "row", .tuple [], .int t]) := by
    intro y1 y2 y3 y4 y5 y6 y8 y9 y12 y13 y14 y15
    rw [e0]
    refine lcGo_list fun t _ => ⟨_, rfl, ?_⟩
    simp [sizeLine]
  have hz : (R.map fun t => PyData.tuple [.str "row", .tuple [], .int t]).length + 1 ≤ 16777216 := by rw [List.length_map]; omega
  have hz2 : R.length ≤ 16777216 := by omega
  have hz3 : R.length ≤ 16777215 := by omega
  have eM : oMulT (.fz (.tuple [.tuple [.int 1, .int 1]])) (.fz (.int 20)) = some (.fz (.tuple (ts20.map thD))) := rfl
  have ec2 : qOf f_clashes [.tuple [.tuple (ts20.map thD), .tuple (pdL (itsOf evL))]] = some (.list ((dueG B 20 20).map thD)) := ec
  rw [wS_seq]
  simp [m_law_11, sizeLine]
  rw [wS_seq]
  simp [m_law_12, hb, lc, et, hz, hz2, hz3, sizeLine]
  rw [← ep]
  rw [wS_seq]
  simp [sizeLine]
  rw [wS_seq]
  refine dues2 hB fun x7 => ?_
  have hn := oNe_self (shaped_th (l := dueG B 20 20))
  generalize dueG B 20 20 = L at ec2 hn
  generalize pdL (itsOf evL) = PE at ec2
  rw [wS_seq]
  simp [m_law_15, eM, qCall, ec2, hn, sizeLine, -oMulT_t]
  rw [wS_seq]
  simp [m_law_16, sizeLine]
  have c1 := s1_cl
  have c2 := s2_cl
  have c1' : qOf f_clashes [.tuple [.tuple [.tuple [.int 1, .int 1], .tuple [.int 1, .int 1]], .tuple [.tuple [.str "row", .tuple [], .int 0], .tuple [.str "row", .tuple [.int 0], .int 1], .tuple [.str "row", .tuple [.int 1], .none]]]] = some (.list []) := c1
  have c2' : qOf f_clashes [.tuple [.tuple [.tuple [.int 1, .int 1], .tuple [.int 1, .int 1]], .tuple [.tuple [.str "row", .tuple [], .int 0], .tuple [.str "row", .tuple [], .int 1], .tuple [.str "row", .tuple [.int 0, .int 1], .none]]]] = some (.list [.tuple [.int 0, .int 1]]) := c2
  have n1 := oEq_nil (ds := []) (by simp [SeqAt.shaped, PyData.canLay0, PyData.canLayAll0, PyData.depth, PyData.depthAll])
  have n2 : oEq (.fz (.list [.tuple [.int 0, .int 1]])) (.fz (.list [.tuple [.int 0, .int 1]])) = some (.fz (.bool true)) := oEq_self (d := .list [.tuple [.int 0, .int 1]]) (by simp [SeqAt.shaped, PyData.canLay0, PyData.canLayAll0, PyData.depth, PyData.depthAll])
  simp at n1
  simp [m_law_17, qCall, c1', c2', n1, n2, sizeLine]
theorem plain_law (ns : List Int) (h : ns.length ≤ 63) : ∃ outs, f_law [.fz (.list (ns.map .int))] = .ret (.fz (.bool true)) outs := by
  apply law_of
  unfold f_law m_law
  rw [wF_defN, wS_seq]
  have hb : big62 (if (if (ns.length : Int) < 4 then (ns.length : Int) else 4) > 1 then (if (ns.length : Int) < 4 then (ns.length : Int) else 4) else 1) = true := big62_s (by split <;> omega) (by split <;> split <;> omega)
  simp at hb
  simp [m_law_10, hb]
  refine wS_forI (lawV ns) ⟨_, _, _, _, _, _, _, _, _, _, _, _, _, rfl⟩ ?_ ?_
  · rintro i x ρ ex ⟨x1, x2, x3, x4, x5, x6, x7, x8, x9, x12, x13, x14, x15, rfl⟩
    obtain ⟨rfl, hi⟩ := rngD_at ex
    have hi7 : (i : Int) ≤ 7 := by
      split at hi <;> split at hi <;> omega
    refine ⟨_, rfl, ?_⟩
    rw [wS_seq]
    simp [m_law_1]
    refine tape_spec (by omega) (by omega) fun a s ha hs hs2 => ?_
    simp
    rw [wS_seq]
    simp [m_law_2]
    refine program_spec (c := 0) (n := 0) ha hs hs2 (by decide) (by decide) (by decide) fun ts its d a2 c2 ok oz ha2 hc2 hc2' => ?_
    obtain ⟨kn, K, C, b1, b2, b3, b4⟩ := busy_up ok
    have hl := okP_len ok
    have hts := ok.2.2.2.2
    generalize buL its (alF its kn) = B at b1 b2 b3 b4
    have e9 : oIx (.fz (prgD ts its)) (.fz (.int 0)) = some (.fz (.tuple (ts.map thD))) := by
      simp [prgD]
    simp
    rw [wS_seq]
    simp [m_law_3, qCall, b1, e9, sizeLine]
    rw [wS_seq]
    simp [sizeLine]
    rw [wS_seq]
    refine dues (by omega) hts fun x7 => ?_
    refine turns b1 b3 b4 hts ?_
    rintro ρ ⟨x8, x9, rfl⟩
    exact ⟨_, _, _, _, _, _, _, _, _, _, _, _, _, rfl⟩
  · rintro ρ ⟨x1, x2, x3, x4, x5, x6, x7, x8, x9, x12, x13, x14, x15, rfl⟩
    have := law_end (x0 := .fz (.list (ns.map .int))) (x1 := x1) (x2 := x2) (x3 := x3) (x4 := x4) (x5 := x5) (x6 := x6) (x7 := x7) (x8 := x8) (x9 := x9) (x12 := x12) (x13 := x13) (x14 := x14) (x15 := x15) (nx := fun ρ => False) (bk := fun _ => False) (ct := fun _ => False)
    first
      | exact this
      | exact wS_mono this (fun _ z => z) (fun _ _ z => z) (fun _ z => z) (fun _ z => z)
end FM
open PySem PySem.W PySem.Calls PyProof.Rows
theorem PySem.Challenge.cw_frameshare_k11_pairs_that_clash_holds : PySem.Challenge.rw_frameshare_k11_pairs_that_clash.Holds := by
  w_on; o_law
  refine HandSHeadRun.head_any (r := OpenLaw.row PySem.Challenge.rw_frameshare_k11_pairs_that_clash) (q := view (OpenLaw.row PySem.Challenge.rw_frameshare_k11_pairs_that_clash).prog [29]) (H := FM.hhk) (ob := FM.hob) (M := 2000) (loose := FM.hloose) (d := HandSHeadRun.topDef (OpenLaw.row PySem.Challenge.rw_frameshare_k11_pairs_that_clash).prog 29) (kwd := []) FM.hob_eq
    (by kernel_rfl) (fun s => by kernel_rfl) FM.hrun (by kernel_rfl) (by kernel_rfl) (by kernel_rfl) (by rfl) (by first | assumption | decide +kernel) (by decide +kernel) ⟨rfl, rfl, rfl, rfl, rfl, by decide +kernel⟩ ?hw ?hc
  case hw => w_witness2
  case hc =>
    refine FM.walk_ofG (l := PySem.Challenge.rw_frameshare_k11_pairs_that_clash) (n := 63) (k := 52) (x := "_law_script") (CX := fun w => FM.CXg PySem.Challenge.rw_frameshare_k11_pairs_that_clash.prog w) rfl (by decide) (by kernel_rfl) ⟨rfl, by decide, by decide⟩ ?F (fun w H s e s' z => FM.cx_none H s e s' z)
    intro w mg fa h Y G hmg0
    obtain ⟨K, KX, c⟩ := Y
    have hmg : mg ("law" : PySem.Str) = some (.ref fa) := by
      have e : (HandSHeadRun.topDef (OpenLaw.row PySem.Challenge.rw_frameshare_k11_pairs_that_clash).prog 29).name = ("law" : PySem.Str) := by kernel_rfl
      rw [← e]
      exact hmg0
    obtain ⟨fd, hb, hF⟩ := FM.hfacts (P := PySem.Challenge.rw_frameshare_k11_pairs_that_clash.prog) (w := w) KX G hmg c
    exact ⟨K, ⟨K, FM.hcl K⟩, fd, FM.f_law, KX, rfl, hb, FM.plain_law, fun base _ _ => hF base⟩

