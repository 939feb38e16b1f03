import PyProof.Rows.All
import Wide.All
import OpenK.AllK
import Wide.FinOn
import HandS.ForMost
import HandS.Wide
import HandS.IsInst
import HandS.TupAny
import PyProof.AutoListH
import PyProof.ListMulRoad
import HandS.Deep
import HandS.Style
import PyProof.P3In
import HandS.Conv
import HandS.RaiseMore
import PyProof.ReprRoads
import PyProof.ReprRoom
import HandS.Walk
import HandS.Zip
import HandS.HeadHook1
import HandS.HeadHook2
import HandS.Head2
import HandS.HeadEnd
import HandS.Exc
import HandS.ExcOwn
import HandS.Words
import HandS.WordsExc
import HandS.Defaults
import KE.GoesNew
import PyProof.P3Eq
import KE.SortData
import HandS.SortInts
import HandS.Small
import KE.DataMinMax
import HandS.SortKw
import HandS.TryOnly
import HandS.SetFor
import PySem.Challenge.RW_frameshare_k46_moves_that_lose_nothing
set_option Elab.async false
set_option linter.all false
set_option maxRecDepth 100000
set_option maxHeartbeats 4000000
namespace FM
open PySem L2

abbrev PD := PyData
abbrev Frag := PySem.W.Frag

def keyD : Key → PD
  | .inl i => .int i
  | .inr x => .str x
def kp (p : Key × PD) : PD × PD := (keyD p.1, p.2)
def tp (p : List Key × PD) : PD × PD := (.tuple (p.1.map keyD), p.2)

/-! ### frozen data: what stands at F -/
mutual
inductive Rep (K : Frag) (F : Hp) : V → PD → Prop
  | non : Rep K F .non .none
  | bl (b : Bool) : Rep K F (.bl b) (.bool b)
  | int (i : Int) : Rep K F (.int i) (.int i)
  | str (x : Str) : Rep K F (.str x) (.str x)
  | lst {a : Addr} {vs : List V} {ds : List PD} : SqL K F a vs → Reps K F vs ds → Rep K F (.ref a) (.list ds)
  | tup {a : Addr} {vs : List V} {ds : List PD} : F a = some (.tup vs) → Reps K F vs ds → Rep K F (.ref a) (.tuple ds)
  | dic {a : Addr} {kvs : List (Key × V)} {ds : List (Key × PD)} {pd : PD} : Rd F a (.dK kvs) → RepK K F kvs ds → pd = .dict (ds.map kp) → Rep K F (.ref a) pd
  | dit {a : Addr} {kvs : List (List Key × V)} {ds : List (List Key × PD)} {pd : PD} : Rd F a (.dT kvs) → RepT K F kvs ds → pd = .dict (ds.map tp) → Rep K F (.ref a) pd
inductive Reps (K : Frag) (F : Hp) : List V → List PD → Prop
  | nil : Reps K F [] []
  | cons {v : V} {d : PD} {vs : List V} {ds : List PD} : Rep K F v d → Reps K F vs ds → Reps K F (v :: vs) (d :: ds)
inductive RepK (K : Frag) (F : Hp) : List (Key × V) → List (Key × PD) → Prop
  | nil : RepK K F [] []
  | cons {k : Key} {v : V} {d : PD} {vs : List (Key × V)} {ds : List (Key × PD)} : Rep K F v d → RepK K F vs ds → RepK K F ((k, v) :: vs) ((k, d) :: ds)
inductive RepT (K : Frag) (F : Hp) : List (List Key × V) → List (List Key × PD) → Prop
  | nil : RepT K F [] []
  | cons {k : List Key} {v : V} {d : PD} {vs : List (List Key × V)} {ds : List (List Key × PD)} : Rep K F v d → RepT K F vs ds → RepT K F ((k, v) :: vs) ((k, d) :: ds)
end

theorem rd_sub {F F' : Hp} {a : Addr} {u : HO} (s : Same F F') (h : Rd F a u) : Rd F' a u := by
  rcases h with h | ⟨o, h⟩
  · exact .inl (s _ _ h)
  · exact .inr ⟨o, s _ _ h⟩
theorem sqL_sub {K : Frag} {F F' : Hp} {a : Addr} {vs : List V} (s : Same F F') (h : SqL K F a vs) : SqL K F' a vs := h.imp (rd_sub s) id
theorem sqT_sub {K : Frag} {F F' : Hp} {a : Addr} {vs : List V} (s : Same F F') (h : SqT K F a vs) : SqT K F' a vs := h.imp (rd_sub s) id

mutual
theorem Rep.sub {K : Frag} {F F' : Hp} (s : Same F F') : ∀ {v : V} {d : PD}, Rep K F v d → Rep K F' v d
  | _, _, .non => .non
  | _, _, .bl b => .bl b
  | _, _, .int i => .int i
  | _, _, .str x => .str x
  | _, _, .lst h r => .lst (sqL_sub s h) (Reps.sub s r)
  | _, _, .tup h r => .tup (s _ _ h) (Reps.sub s r)
  | _, _, .dic h r e => .dic (rd_sub s h) (RepK.sub s r) e
  | _, _, .dit h r e => .dit (rd_sub s h) (RepT.sub s r) e
theorem Reps.sub {K : Frag} {F F' : Hp} (s : Same F F') : ∀ {v : List V} {d : List PD}, Reps K F v d → Reps K F' v d
  | _, _, .nil => .nil
  | _, _, .cons h r => .cons (Rep.sub s h) (Reps.sub s r)
theorem RepK.sub {K : Frag} {F F' : Hp} (s : Same F F') : ∀ {v : List (Key × V)} {d : List (Key × PD)}, RepK K F v d → RepK K F' v d
  | _, _, .nil => .nil
  | _, _, .cons h r => .cons (Rep.sub s h) (RepK.sub s r)
theorem RepT.sub {K : Frag} {F F' : Hp} (s : Same F F') : ∀ {v : List (List Key × V)} {d : List (List Key × PD)}, RepT K F v d → RepT K F' v d
  | _, _, .nil => .nil
  | _, _, .cons h r => .cons (Rep.sub s h) (RepT.sub s r)
end

/-- F is a part of H, but for locks -/
def FLe (F H : Hp) : Prop := ∀ a u, F a = some u → H a = some u ∨ (Mut (some u) ∧ ∃ o, H a = some (.frz o u))
theorem rd_le {F H : Hp} {a : Addr} {u : HO} (s : FLe F H) (h : Rd F a u) : Rd H a u := by
  rcases h with h | ⟨o, h⟩
  · rcases s _ _ h with q | ⟨_, o, q⟩
    · exact .inl q
    · exact .inr ⟨o, q⟩
  · rcases s _ _ h with q | ⟨m, _⟩
    · exact .inr ⟨o, q⟩
    · exact m.elim
theorem tup_le {F H : Hp} {a : Addr} {vs : List V} (s : FLe F H) (h : F a = some (.tup vs)) : H a = some (.tup vs) := by
  rcases s _ _ h with q | ⟨m, _⟩
  · exact q
  · exact m.elim
theorem sqL_le {K : Frag} {F H : Hp} {a : Addr} {vs : List V} (s : FLe F H) (h : SqL K F a vs) : SqL K H a vs := h.imp (rd_le s) id
theorem sqT_le {K : Frag} {F H : Hp} {a : Addr} {vs : List V} (s : FLe F H) (h : SqT K F a vs) : SqT K H a vs := h.imp (rd_le s) id

/-- the heap has grown -/
structure Xt (F H F' H' : Hp) : Prop where
  ex : Same H H'
  sub : Same F F'
  fle : FLe F' H'
  fresh : ∀ a u, F' a = some u → F a = some u ∨ H a = none
theorem Xt.refl {F H : Hp} (h : FLe F H) : Xt F H F H := ⟨Same.refl _, Same.refl _, h, fun _ _ e => .inl e⟩
theorem none_back {H H' : Hp} (s : Same H H') {a : Addr} (h : H' a = none) : H a = none := s.free h
theorem Xt.trans {F H F1 H1 F2 H2 : Hp} (x : Xt F H F1 H1) (y : Xt F1 H1 F2 H2) : Xt F H F2 H2 :=
  ⟨x.ex.trans y.ex, x.sub.trans y.sub, y.fle, fun a u e => by
    rcases y.fresh a u e with q | q
    · exact x.fresh a u q
    · exact .inr (none_back x.ex q)⟩
theorem FLe.ex {F H H' : Hp} (f : FLe F H) (s : Same H H') : FLe F H' := fun a u e => by
  rcases f a u e with q | ⟨m, o, q⟩
  · exact .inl (s _ _ q)
  · exact .inr ⟨m, o, s _ _ q⟩
theorem same_upd {H : Hp} {p : Addr} {o : HO} (h : H p = none) : Same H (upd H p o) := fun a u e => by
  rw [upd_ne (ne_of_none e h)]
  exact e
/-- a new frozen object -/
theorem Xt.new {F H : Hp} {p : Addr} {o : HO} (f : FLe F H) (h : H p = none) : Xt F H (upd F p o) (upd H p o) := by
  have hF : F p = none := by
    cases e : F p with
    | none => rfl
    | some u =>
      rcases f p u e with q | ⟨_, o, q⟩
      · rw [h] at q; cases q
      · rw [h] at q; cases q
  refine ⟨same_upd h, same_upd hF, fun a u e => ?_, fun a u e => ?_⟩
  · by_cases ha : a = p
    · subst ha
      rw [upd_same] at e ⊢
      exact .inl e
    · rw [upd_ne ha] at e ⊢
      exact f a u e
  · by_cases ha : a = p
    · subst ha
      exact .inr h
    · rw [upd_ne ha] at e
      exact .inl e
/-- a new object, not frozen -/
theorem Xt.own {F H : Hp} {p : Addr} {o : HO} (f : FLe F H) (h : H p = none) : Xt F H F (upd H p o) := ⟨same_upd h, Same.refl _, f.ex (same_upd h), fun _ _ e => .inl e⟩
theorem fle_none {F H : Hp} {p : Addr} (f : FLe F H) (h : H p = none) : F p = none := by
  cases e : F p with
  | none => rfl
  | some u =>
    rcases f p u e with q | ⟨_, o, q⟩
    · rw [h] at q; cases q
    · rw [h] at q; cases q

/-! ### owned things -/
inductive O where
  | fz (d : PD)
  | lst (ds : List PD)
  | dic (kvs : List (Key × PD))
  | dit (kvs : List (List Key × PD))
  | nst (os : List O)
  | ntp (os : List O)
  | ndc (kvs : List (Key × O))
  | ins (c : Nat) (fs : List (Str × O))
  | ktp (ds : List PD)
  | dead
instance : Inhabited O := ⟨.dead⟩

/-- K: the written part; cl: the classes' addresses -/
structure Kc where
  K : Frag
  cl : Nat → Addr

mutual
inductive Own (k : Kc) (F H : Hp) : V → O → List Addr → Prop
  | fz {v : V} {d : PD} : Rep k.K F v d → Own k F H v (.fz d) []
  | lst {a : Addr} {vs : List V} {ds : List PD} : Rd H a (.lst vs) → Reps k.K F vs ds → Own k F H (.ref a) (.lst ds) [a]
  | dic {a : Addr} {vs : List (Key × V)} {ds : List (Key × PD)} : Rd H a (.dK vs) → RepK k.K F vs ds → Own k F H (.ref a) (.dic ds) [a]
  | dit {a : Addr} {vs : List (List Key × V)} {ds : List (List Key × PD)} : Rd H a (.dT vs) → RepT k.K F vs ds → Own k F H (.ref a) (.dit ds) [a]
  | nst {a : Addr} {vs : List V} {os : List O} {S : List Addr} : Rd H a (.lst vs) → Owns k F H vs os S → Own k F H (.ref a) (.nst os) (a :: S)
  | ntp {a : Addr} {vs : List V} {os : List O} {S : List Addr} : H a = some (.tup vs) → Owns k F H vs os S → Own k F H (.ref a) (.ntp os) (a :: S)
  | ndc {a : Addr} {vs : List (Key × V)} {os : List (Key × O)} {S : List Addr} : Rd H a (.dK vs) → OwnK k F H vs os S → Own k F H (.ref a) (.ndc os) (a :: S)
  | ins {a dx : Addr} {c : Nat} {vs : List (Str × V)} {os : List (Str × O)} {S : List Addr} : Rd H a (.ins (k.cl c) dx vs) → OwnF k F H vs os S → Own k F H (.ref a) (.ins c os) (a :: S)
  | ktp {a : Addr} {vs : List V} {ds : List PD} : (∀ G, SqT k.K G a vs) → Reps k.K F vs ds → Own k F H (.ref a) (.ktp ds) []
  | dead {v : V} : Own k F H v .dead []
inductive Owns (k : Kc) (F H : Hp) : List V → List O → List Addr → Prop
  | nil : Owns k F H [] [] []
  | cons {v : V} {o : O} {vs : List V} {os : List O} {S T : List Addr} : Own k F H v o S → Owns k F H vs os T → Owns k F H (v :: vs) (o :: os) (S ++ T)
inductive OwnK (k : Kc) (F H : Hp) : List (Key × V) → List (Key × O) → List Addr → Prop
  | nil : OwnK k F H [] [] []
  | cons {x : Key} {v : V} {o : O} {vs : List (Key × V)} {os : List (Key × O)} {S T : List Addr} : Own k F H v o S → OwnK k F H vs os T → OwnK k F H ((x, v) :: vs) ((x, o) :: os) (S ++ T)
inductive OwnF (k : Kc) (F H : Hp) : List (Str × V) → List (Str × O) → List Addr → Prop
  | nil : OwnF k F H [] [] []
  | cons {x : Str} {v : V} {o : O} {vs : List (Str × V)} {os : List (Str × O)} {S T : List Addr} : Own k F H v o S → OwnF k F H vs os T → OwnF k F H ((x, v) :: vs) ((x, o) :: os) (S ++ T)
end

/-- what stands at S is the same -/
def At (S : List Addr) (H H' : Hp) : Prop := ∀ a ∈ S, ∀ u, H a = some u → H' a = some u
theorem At.of {S : List Addr} {H H' : Hp} (s : Same H H') : At S H H' := fun a _ u e => s a u e
theorem At.mono {S T : List Addr} {H H' : Hp} (h : ∀ a ∈ S, a ∈ T) (t : At T H H') : At S H H' := fun a m => t a (h a m)
theorem At.left {S T : List Addr} {H H' : Hp} (t : At (S ++ T) H H') : At S H H' := t.mono fun _ m => List.mem_append_left _ m
theorem At.right {S T : List Addr} {H H' : Hp} (t : At (S ++ T) H H') : At T H H' := t.mono fun _ m => List.mem_append_right _ m
theorem At.tail {a : Addr} {T : List Addr} {H H' : Hp} (t : At (a :: T) H H') : At T H H' := t.mono fun _ m => List.mem_cons_of_mem _ m
theorem At.rd {S : List Addr} {H H' : Hp} {a : Addr} {u : HO} (t : At S H H') (m : a ∈ S) (h : Rd H a u) : Rd H' a u := by
  rcases h with h | ⟨o, h⟩
  · exact .inl (t a m _ h)
  · exact .inr ⟨o, t a m _ h⟩

mutual
theorem Own.mono {k : Kc} {F F' H H' : Hp} (s : Same F F') : ∀ {v : V} {o : O} {S : List Addr}, At S H H' → Own k F H v o S → Own k F' H' v o S
  | _, _, _, _, .fz h => .fz (h.sub s)
  | _, _, _, t, .lst h r => .lst (t.rd (by simp) h) (r.sub s)
  | _, _, _, t, .dic h r => .dic (t.rd (by simp) h) (r.sub s)
  | _, _, _, t, .dit h r => .dit (t.rd (by simp) h) (r.sub s)
  | _, _, _, t, .nst h r => .nst (t.rd (by simp) h) (Owns.mono s t.tail r)
  | _, _, _, t, .ntp h r => .ntp (t _ (by simp) _ h) (Owns.mono s t.tail r)
  | _, _, _, t, .ndc h r => .ndc (t.rd (by simp) h) (OwnK.mono s t.tail r)
  | _, _, _, t, .ins h r => .ins (t.rd (by simp) h) (OwnF.mono s t.tail r)
  | _, _, _, _, .ktp h r => .ktp h (r.sub s)
  | _, _, _, _, .dead => .dead
theorem Owns.mono {k : Kc} {F F' H H' : Hp} (s : Same F F') : ∀ {v : List V} {o : List O} {S : List Addr}, At S H H' → Owns k F H v o S → Owns k F' H' v o S
  | _, _, _, _, .nil => .nil
  | _, _, _, t, .cons h r => .cons (Own.mono s t.left h) (Owns.mono s t.right r)
theorem OwnK.mono {k : Kc} {F F' H H' : Hp} (s : Same F F') : ∀ {v : List (Key × V)} {o : List (Key × O)} {S : List Addr}, At S H H' → OwnK k F H v o S → OwnK k F' H' v o S
  | _, _, _, _, .nil => .nil
  | _, _, _, t, .cons h r => .cons (Own.mono s t.left h) (OwnK.mono s t.right r)
theorem OwnF.mono {k : Kc} {F F' H H' : Hp} (s : Same F F') : ∀ {v : List (Str × V)} {o : List (Str × O)} {S : List Addr}, At S H H' → OwnF k F H v o S → OwnF k F' H' v o S
  | _, _, _, _, .nil => .nil
  | _, _, _, t, .cons h r => .cons (Own.mono s t.left h) (OwnF.mono s t.right r)
end

/-- slots -/
inductive Envs (k : Kc) (F H : Hp) : L2.St → List O → List Addr → Prop
  | nil : Envs k F H [] [] []
  | dead {x : Option V} {σ : L2.St} {ρ : List O} {S : List Addr} : Envs k F H σ ρ S → Envs k F H (x :: σ) (.dead :: ρ) S
  | cons {v : V} {o : O} {σ : L2.St} {ρ : List O} {S T : List Addr} : Own k F H v o S → Envs k F H σ ρ T → Envs k F H (some v :: σ) (o :: ρ) (S ++ T)
theorem Envs.mono {k : Kc} {F F' H H' : Hp} (s : Same F F') : ∀ {σ : L2.St} {ρ : List O} {S : List Addr}, At S H H' → Envs k F H σ ρ S → Envs k F' H' σ ρ S
  | _, _, _, _, .nil => .nil
  | _, _, _, t, .dead r => .dead (Envs.mono s t r)
  | _, _, _, t, .cons h r => .cons (Own.mono s t.left h) (Envs.mono s t.right r)
theorem Envs.length {k : Kc} {F H : Hp} : ∀ {σ : L2.St} {ρ : List O} {S : List Addr}, Envs k F H σ ρ S → σ.length = ρ.length
  | _, _, _, .nil => rfl
  | _, _, _, .dead r => congrArg (· + 1) (Envs.length r)
  | _, _, _, .cons _ r => congrArg (· + 1) (Envs.length r)

/-- a view: it may lean on what stands at S -/
def Vw (k : Kc) (F H : Hp) (S : List Addr) (v : V) (o : O) : Prop := ∃ T, (∀ a ∈ T, a ∈ S) ∧ Own k F H v o T
inductive Vws (k : Kc) (F H : Hp) (S : List Addr) : List V → List O → Prop
  | nil : Vws k F H S [] []
  | cons {v : V} {o : O} {vs : List V} {os : List O} : Vw k F H S v o → Vws k F H S vs os → Vws k F H S (v :: vs) (o :: os)
theorem Vw.mono {k : Kc} {F F' H H' : Hp} {S : List Addr} {v : V} {o : O} (s : Same F F') (t : At S H H') (h : Vw k F H S v o) : Vw k F' H' S v o :=
  let ⟨T, m, q⟩ := h
  ⟨T, m, q.mono s (t.mono m)⟩
theorem Vw.xt {k : Kc} {F F' H H' : Hp} {S : List Addr} {v : V} {o : O} (x : Xt F H F' H') (h : Vw k F H S v o) : Vw k F' H' S v o := h.mono x.sub (At.of x.ex)
theorem Vws.xt {k : Kc} {F F' H H' : Hp} {S : List Addr} (x : Xt F H F' H') : ∀ {v : List V} {o : List O}, Vws k F H S v o → Vws k F' H' S v o
  | _, _, .nil => .nil
  | _, _, .cons h r => .cons (h.xt x) (Vws.xt x r)
theorem Vw.fz {k : Kc} {F H : Hp} {S : List Addr} {v : V} {d : PD} (h : Rep k.K F v d) : Vw k F H S v (.fz d) := ⟨[], ⟨(fun _ m => by cases m), .fz h⟩⟩
theorem Vw.rep {k : Kc} {F H : Hp} {S : List Addr} {v : V} {d : PD} (h : Vw k F H S v (.fz d)) : Rep k.K F v d := by
  obtain ⟨T, _, q⟩ := h
  cases q with
  | fz r => exact r
theorem Envs.xt {k : Kc} {F F' H H' : Hp} {σ : L2.St} {ρ : List O} {S : List Addr} (x : Xt F H F' H') (h : Envs k F H σ ρ S) : Envs k F' H' σ ρ S := h.mono x.sub (At.of x.ex)
theorem Envs.get {k : Kc} {F H : Hp} : ∀ {σ : L2.St} {ρ : List O} {S : List Addr} {i : Nat} {o : O}, Envs k F H σ ρ S → ρ[i]? = some o → o = .dead ∨ ∃ v, σ[i]? = some (some v) ∧ Vw k F H S v o
  | _, _, _, _, _, .nil, e => by simp at e
  | _, _, _, 0, _, .dead r, e => .inl (by simpa using e.symm)
  | _, _, _, 0, _, .cons h r, e => by
    have e' : _ = _ := Option.some.inj (by simpa using e)
    subst e'
    exact .inr ⟨_, rfl, _, fun a m => List.mem_append_left _ m, h⟩
  | _, _, _, i + 1, _, .dead r, e => by
    rcases Envs.get (i := i) r (by simpa using e) with q | ⟨v, q, w⟩
    · exact .inl q
    · exact .inr ⟨v, by simpa using q, w⟩
  | _, _, _, i + 1, _, .cons h r, e => by
    rcases Envs.get (i := i) r (by simpa using e) with q | ⟨v, q, T, m, w⟩
    · exact .inl q
    · exact .inr ⟨v, by simpa using q, T, fun a z => List.mem_append_right _ (m a z), w⟩
end FM
namespace FM
open PySem L2

/-! ### from owned to frozen -/
mutual
def toPD : O → Option PD
  | .fz d => some d
  | .lst ds => some (.list ds)
  | .dic ds => some (.dict (ds.map kp))
  | .dit ds => some (.dict (ds.map tp))
  | .nst os => (toPDs os).map .list
  | .ntp os => (toPDs os).map .tuple
  | .ndc os => (toPDk os).map fun ds => .dict (ds.map kp)
  | .ins _ _ => none
  | .ktp _ => none
  | .dead => none
def toPDs : List O → Option (List PD)
  | [] => some []
  | o :: os => match toPD o, toPDs os with
    | some d, some ds => some (d :: ds)
    | _, _ => none
def toPDk : List (Key × O) → Option (List (Key × PD))
  | [] => some []
  | (k, o) :: os => match toPD o, toPDk os with
    | some d, some ds => some ((k, d) :: ds)
    | _, _ => none
end
def over (F H : Hp) (T : List Addr) : Hp := fun a => if a ∈ T then H a else F a
theorem over_in {F H : Hp} {T : List Addr} {a : Addr} (h : a ∈ T) : over F H T a = H a := if_pos h
theorem over_out {F H : Hp} {T : List Addr} {a : Addr} (h : a ∉ T) : over F H T a = F a := if_neg h
theorem over_rd {F H : Hp} {T : List Addr} {a : Addr} {u : HO} (h : a ∈ T) (r : Rd H a u) : Rd (over F H T) a u := by
  unfold Rd
  rw [over_in h]
  exact r
theorem over_sub {F H : Hp} {T : List Addr} (off : ∀ a ∈ T, F a = none) : Same F (over F H T) := fun a u e => by
  by_cases h : a ∈ T
  · rw [off a h] at e; cases e
  · rw [over_out h]; exact e
theorem over_le {F H : Hp} {T : List Addr} (f : FLe F H) : FLe (over F H T) H := fun a u e => by
  by_cases h : a ∈ T
  · rw [over_in h] at e; exact .inl e
  · rw [over_out h] at e; exact f a u e
theorem over_fresh {F H : Hp} {T : List Addr} {a : Addr} {u : HO} (e : over F H T a = some u) : F a = some u ∨ a ∈ T := by
  by_cases h : a ∈ T
  · exact .inr h
  · rw [over_out h] at e; exact .inl e
mutual
theorem own_fz {k : Kc} {F H G : Hp} {T : List Addr} (s : Same F G) (g : ∀ a u, a ∈ T → Rd H a u → Rd G a u) (gt : ∀ a vs, a ∈ T → H a = some (.tup vs) → G a = some (.tup vs)) : ∀ {v : V} {o : O} {S : List Addr} {d : PD}, (∀ a ∈ S, a ∈ T) → Own k F H v o S → toPD o = some d → Rep k.K G v d
  | _, _, _, _, _, .fz h, e => by
    have e' := Option.some.inj e
    subst e'
    exact h.sub s
  | _, _, _, _, m, .lst h r, e => by
    have e' := Option.some.inj e
    subst e'
    exact .lst (.inl (g _ _ (m _ (by simp)) h)) (r.sub s)
  | _, _, _, _, m, .dic h r, e => by
    have e' := Option.some.inj e
    subst e'
    exact .dic (g _ _ (m _ (by simp)) h) (r.sub s) rfl
  | _, _, _, _, m, .dit h r, e => by
    have e' := Option.some.inj e
    subst e'
    exact .dit (g _ _ (m _ (by simp)) h) (r.sub s) rfl
  | _, _, _, _, m, .nst (os := os) h r, e => by
    have e : (toPDs os).map PyData.list = some _ := e
    cases q : toPDs os with
    | none => rw [q] at e; cases e
    | some ds =>
      rw [q] at e
      have e' := Option.some.inj e
      subst e'
      exact .lst (.inl (g _ _ (m _ (by simp)) h)) (owns_fz s g gt (fun a z => m a (List.mem_cons_of_mem _ z)) r q)
  | _, _, _, _, m, .ntp (os := os) h r, e => by
    have e : (toPDs os).map PyData.tuple = some _ := e
    cases q : toPDs os with
    | none => rw [q] at e; cases e
    | some ds =>
      rw [q] at e
      have e' := Option.some.inj e
      subst e'
      exact .tup (gt _ _ (m _ (by simp)) h) (owns_fz s g gt (fun a z => m a (List.mem_cons_of_mem _ z)) r q)
  | _, _, _, _, m, .ndc (os := os) h r, e => by
    have e : (toPDk os).map (fun ds => PyData.dict (ds.map kp)) = some _ := e
    cases q : toPDk os with
    | none => rw [q] at e; cases e
    | some ds =>
      rw [q] at e
      have e' := Option.some.inj e
      subst e'
      exact .dic (g _ _ (m _ (by simp)) h) (ownk_fz s g gt (fun a z => m a (List.mem_cons_of_mem _ z)) r q) rfl
  | _, _, _, _, _, .ins _ _, e => by cases e
  | _, _, _, _, _, .ktp _ _, e => by cases e
  | _, _, _, _, _, .dead, e => by cases e
theorem owns_fz {k : Kc} {F H G : Hp} {T : List Addr} (s : Same F G) (g : ∀ a u, a ∈ T → Rd H a u → Rd G a u) (gt : ∀ a vs, a ∈ T → H a = some (.tup vs) → G a = some (.tup vs)) : ∀ {v : List V} {o : List O} {S : List Addr} {d : List PD}, (∀ a ∈ S, a ∈ T) → Owns k F H v o S → toPDs o = some d → Reps k.K G v d
  | _, _, _, _, _, .nil, e => by
    have e' := Option.some.inj e
    subst e'
    exact .nil
  | _, _, _, _, m, .cons (o := o) (os := os) h r, e => by
    unfold toPDs at e
    cases q1 : toPD o with
    | none => rw [q1] at e; cases e
    | some d =>
      cases q2 : toPDs os with
      | none => rw [q1, q2] at e; cases e
      | some ds =>
        rw [q1, q2] at e
        have e' := Option.some.inj e
        subst e'
        exact .cons (own_fz s g gt (fun a z => m a (List.mem_append_left _ z)) h q1) (owns_fz s g gt (fun a z => m a (List.mem_append_right _ z)) r q2)
theorem ownk_fz {k : Kc} {F H G : Hp} {T : List Addr} (s : Same F G) (g : ∀ a u, a ∈ T → Rd H a u → Rd G a u) (gt : ∀ a vs, a ∈ T → H a = some (.tup vs) → G a = some (.tup vs)) : ∀ {v : List (Key × V)} {o : List (Key × O)} {S : List Addr} {d : List (Key × PD)}, (∀ a ∈ S, a ∈ T) → OwnK k F H v o S → toPDk o = some d → RepK k.K G v d
  | _, _, _, _, _, .nil, e => by
    have e' := Option.some.inj e
    subst e'
    exact .nil
  | _, _, _, _, m, .cons (o := o) (os := os) h r, e => by
    unfold toPDk at e
    cases q1 : toPD o with
    | none => rw [q1] at e; cases e
    | some d =>
      cases q2 : toPDk os with
      | none => rw [q1, q2] at e; cases e
      | some ds =>
        rw [q1, q2] at e
        have e' := Option.some.inj e
        subst e'
        exact .cons (own_fz s g gt (fun a z => m a (List.mem_append_left _ z)) h q1) (ownk_fz s g gt (fun a z => m a (List.mem_append_right _ z)) r q2)
end
/-- a view as data at the heap -/
def SubLe (F H : Hp) (G : Hp) : Prop := Same F G ∧ ∀ a u, Rd H a u → Rd G a u
theorem Own.freeze {k : Kc} {F H : Hp} {v : V} {o : O} {T : List Addr} {d : PD} (h : Own k F H v o T) (off : ∀ a ∈ T, F a = none) (e : toPD o = some d) : Rep k.K (over F H T) v d :=
  own_fz (over_sub off) (fun a u m r => over_rd m r) (fun a vs m r => by rw [over_in m]; exact r) (fun _ m => m) h e

/-! ### frozen data at the heap itself (locks looked through) -/
def eye (H : Hp) : Hp := H
mutual
theorem Rep.le {K : Frag} {F H : Hp} (s : FLe F H) : ∀ {v : V} {d : PD}, Rep K F v d → Rep K H v d
  | _, _, .non => .non
  | _, _, .bl b => .bl b
  | _, _, .int i => .int i
  | _, _, .str x => .str x
  | _, _, .lst h r => .lst (sqL_le s h) (Reps.le s r)
  | _, _, .tup h r => .tup (tup_le s h) (Reps.le s r)
  | _, _, .dic h r e => .dic (rd_le s h) (RepK.le s r) e
  | _, _, .dit h r e => .dit (rd_le s h) (RepT.le s r) e
theorem Reps.le {K : Frag} {F H : Hp} (s : FLe F H) : ∀ {v : List V} {d : List PD}, Reps K F v d → Reps K H v d
  | _, _, .nil => .nil
  | _, _, .cons h r => .cons (Rep.le s h) (Reps.le s r)
theorem RepK.le {K : Frag} {F H : Hp} (s : FLe F H) : ∀ {v : List (Key × V)} {d : List (Key × PD)}, RepK K F v d → RepK K H v d
  | _, _, .nil => .nil
  | _, _, .cons h r => .cons (Rep.le s h) (RepK.le s r)
theorem RepT.le {K : Frag} {F H : Hp} (s : FLe F H) : ∀ {v : List (List Key × V)} {d : List (List Key × PD)}, RepT K F v d → RepT K H v d
  | _, _, .nil => .nil
  | _, _, .cons h r => .cons (Rep.le s h) (RepT.le s r)
end
mutual
theorem own_at {k : Kc} {F H : Hp} (s : FLe F H) : ∀ {v : V} {o : O} {S : List Addr} {d : PD}, Own k F H v o S → toPD o = some d → Rep k.K H v d
  | _, _, _, _, .fz h, e => by
    have e' := Option.some.inj e
    subst e'
    exact h.le s
  | _, _, _, _, .lst h r, e => by
    have e' := Option.some.inj e
    subst e'
    exact .lst (.inl h) (r.le s)
  | _, _, _, _, .dic h r, e => by
    have e' := Option.some.inj e
    subst e'
    exact .dic h (r.le s) rfl
  | _, _, _, _, .dit h r, e => by
    have e' := Option.some.inj e
    subst e'
    exact .dit h (r.le s) rfl
  | _, _, _, _, .nst (os := os) h r, e => by
    have e : (toPDs os).map PyData.list = some _ := e
    cases q : toPDs os with
    | none => rw [q] at e; cases e
    | some ds =>
      rw [q] at e
      have e' := Option.some.inj e
      subst e'
      exact .lst (.inl h) (owns_at s r q)
  | _, _, _, _, .ntp (os := os) h r, e => by
    have e : (toPDs os).map PyData.tuple = some _ := e
    cases q : toPDs os with
    | none => rw [q] at e; cases e
    | some ds =>
      rw [q] at e
      have e' := Option.some.inj e
      subst e'
      exact .tup h (owns_at s r q)
  | _, _, _, _, .ndc (os := os) h r, e => by
    have e : (toPDk os).map (fun ds => PyData.dict (ds.map kp)) = some _ := e
    cases q : toPDk os with
    | none => rw [q] at e; cases e
    | some ds =>
      rw [q] at e
      have e' := Option.some.inj e
      subst e'
      exact .dic h (ownk_at s r q) rfl
  | _, _, _, _, .ins _ _, e => by cases e
  | _, _, _, _, .ktp _ _, e => by cases e
  | _, _, _, _, .dead, e => by cases e
theorem owns_at {k : Kc} {F H : Hp} (s : FLe F H) : ∀ {v : List V} {o : List O} {S : List Addr} {d : List PD}, Owns k F H v o S → toPDs o = some d → Reps k.K H v d
  | _, _, _, _, .nil, e => by
    have e' := Option.some.inj e
    subst e'
    exact .nil
  | _, _, _, _, .cons (o := o) (os := os) h r, e => by
    unfold toPDs at e
    cases q1 : toPD o with
    | none => rw [q1] at e; cases e
    | some d =>
      cases q2 : toPDs os with
      | none => rw [q1, q2] at e; cases e
      | some ds =>
        rw [q1, q2] at e
        have e' := Option.some.inj e
        subst e'
        exact .cons (own_at s h q1) (owns_at s r q2)
theorem ownk_at {k : Kc} {F H : Hp} (s : FLe F H) : ∀ {v : List (Key × V)} {o : List (Key × O)} {S : List Addr} {d : List (Key × PD)}, OwnK k F H v o S → toPDk o = some d → RepK k.K H v d
  | _, _, _, _, .nil, e => by
    have e' := Option.some.inj e
    subst e'
    exact .nil
  | _, _, _, _, .cons (o := o) (os := os) h r, e => by
    unfold toPDk at e
    cases q1 : toPD o with
    | none => rw [q1] at e; cases e
    | some d =>
      cases q2 : toPDk os with
      | none => rw [q1, q2] at e; cases e
      | some ds =>
        rw [q1, q2] at e
        have e' := Option.some.inj e
        subst e'
        exact .cons (own_at s h q1) (ownk_at s r q2)
end
theorem Vw.at_ {k : Kc} {F H : Hp} {S : List Addr} {v : V} {o : O} {d : PD} (h : Vw k F H S v o) (s : FLe F H) (e : toPD o = some d) : Rep k.K H v d :=
  let ⟨_, _, q⟩ := h
  own_at s q e
/-- sequences -/
def seqL : O → Option (List PD)
  | .fz (.list ds) => some ds
  | .lst ds => some ds
  | _ => none
def seqT : O → Option (List PD)
  | .fz (.tuple ds) => some ds
  | _ => none
theorem Vw.seqL {k : Kc} {F H : Hp} {S : List Addr} {v : V} {o : O} {ds : List PD} (h : Vw k F H S v o) (s : FLe F H) (e : FM.seqL o = some ds) : ∃ a vs, v = .ref a ∧ SqL k.K H a vs ∧ Reps k.K F vs ds := by
  obtain ⟨T, _, q⟩ := h
  cases q with
  | fz r =>
    cases r with
    | lst h1 h2 =>
      have e' := Option.some.inj e
      subst e'
      exact ⟨_, _, rfl, sqL_le s h1, h2⟩
    | dic h1 h2 h3 => subst h3; cases e
    | dit h1 h2 h3 => subst h3; cases e
    | _ => cases e
  | lst h1 h2 =>
    have e' := Option.some.inj e
    subst e'
    exact ⟨_, _, rfl, .inl h1, h2⟩
  | _ => cases e
theorem Vw.seqT {k : Kc} {F H : Hp} {S : List Addr} {v : V} {o : O} {ds : List PD} (h : Vw k F H S v o) (s : FLe F H) (e : FM.seqT o = some ds) : ∃ a vs, v = .ref a ∧ H a = some (.tup vs) ∧ Reps k.K F vs ds := by
  obtain ⟨T, _, q⟩ := h
  cases q with
  | fz r =>
    cases r with
    | tup h1 h2 =>
      have e' := Option.some.inj e
      subst e'
      exact ⟨_, _, rfl, tup_le s h1, h2⟩
    | dic h1 h2 h3 => subst h3; cases e
    | dit h1 h2 h3 => subst h3; cases e
    | _ => cases e
  | _ => cases e
/-- a tuple that is read: a new one, or the module's -/
def seqR : O → Option (List PD)
  | .fz (.tuple ds) => some ds
  | .ktp ds => some ds
  | _ => none
theorem Vw.seqR {k : Kc} {F H : Hp} {S : List Addr} {v : V} {o : O} {ds : List PD} (h : Vw k F H S v o) (s : FLe F H) (e : FM.seqR o = some ds) : ∃ a vs, v = .ref a ∧ SqT k.K H a vs ∧ Reps k.K F vs ds := by
  obtain ⟨T, _, q⟩ := h
  cases q with
  | fz r =>
    cases r with
    | tup h1 h2 =>
      have e' := Option.some.inj e
      subst e'
      exact ⟨_, _, rfl, SqT.of (tup_le s h1), h2⟩
    | dic h1 h2 h3 => subst h3; cases e
    | dit h1 h2 h3 => subst h3; cases e
    | _ => cases e
  | ktp h1 h2 =>
    have e' := Option.some.inj e
    subst e'
    exact ⟨_, _, rfl, h1 H, h2⟩
  | _ => cases e
theorem Vw.int {k : Kc} {F H : Hp} {S : List Addr} {v : V} {i : Int} (h : Vw k F H S v (.fz (.int i))) : v = .int i := by
  cases h.rep with
  | int => rfl
  | dic _ _ e => cases e
  | dit _ _ e => cases e
theorem Vw.str {k : Kc} {F H : Hp} {S : List Addr} {v : V} {i : Str} (h : Vw k F H S v (.fz (.str i))) : v = .str i := by
  cases h.rep with
  | str => rfl
  | dic _ _ e => cases e
  | dit _ _ e => cases e
theorem Vw.bl {k : Kc} {F H : Hp} {S : List Addr} {v : V} {i : Bool} (h : Vw k F H S v (.fz (.bool i))) : v = .bl i := by
  cases h.rep with
  | bl => rfl
  | dic _ _ e => cases e
  | dit _ _ e => cases e
theorem Vw.non {k : Kc} {F H : Hp} {S : List Addr} {v : V} (h : Vw k F H S v (.fz .none)) : v = .non := by
  cases h.rep with
  | non => rfl
  | dic _ _ e => cases e
  | dit _ _ e => cases e
theorem Reps.length {K : Frag} {F : Hp} : ∀ {vs : List V} {ds : List PD}, Reps K F vs ds → vs.length = ds.length
  | _, _, .nil => rfl
  | _, _, .cons _ r => congrArg (· + 1) (Reps.length r)
theorem Reps.append {K : Frag} {F : Hp} : ∀ {vs ws : List V} {ds es : List PD}, Reps K F vs ds → Reps K F ws es → Reps K F (vs ++ ws) (ds ++ es)
  | _, _, _, _, .nil, s => s
  | _, _, _, _, .cons h r, s => .cons h (Reps.append r s)
theorem Reps.get {K : Frag} {F : Hp} : ∀ {vs : List V} {ds : List PD} {i : Nat} {d : PD}, Reps K F vs ds → ds[i]? = some d → ∃ v, vs[i]? = some v ∧ Rep K F v d
  | _, _, _, _, .nil, e => by simp at e
  | _, _, 0, _, .cons h r, e => by
    have e' : _ = _ := Option.some.inj (by simpa using e)
    subst e'
    exact ⟨_, rfl, h⟩
  | _, _, i + 1, _, .cons h r, e => by
    obtain ⟨v, q, w⟩ := Reps.get (i := i) r (by simpa using e)
    exact ⟨v, by simpa using q, w⟩
theorem Reps.take {K : Frag} {F : Hp} : ∀ {vs : List V} {ds : List PD} (n : Nat), Reps K F vs ds → Reps K F (vs.take n) (ds.take n)
  | _, _, 0, _ => by simp only [List.take_zero]; exact .nil
  | _, _, n + 1, .nil => by simp only [List.take_nil]; exact .nil
  | _, _, n + 1, .cons h r => .cons h (Reps.take n r)
theorem Reps.drop {K : Frag} {F : Hp} : ∀ {vs : List V} {ds : List PD} (n : Nat), Reps K F vs ds → Reps K F (vs.drop n) (ds.drop n)
  | _, _, 0, r => r
  | _, _, n + 1, .nil => by simp only [List.drop_nil]; exact .nil
  | _, _, n + 1, .cons h r => Reps.drop n r
theorem Reps.set {K : Frag} {F : Hp} {v : V} {d : PD} (q : Rep K F v d) : ∀ {vs : List V} {ds : List PD} (n : Nat), Reps K F vs ds → Reps K F (vs.set n v) (ds.set n d)
  | _, _, _, .nil => .nil
  | _, _, 0, .cons h r => .cons q r
  | _, _, n + 1, .cons h r => .cons h (Reps.set q n r)
theorem Reps.reverse {K : Frag} {F : Hp} : ∀ {vs : List V} {ds : List PD}, Reps K F vs ds → Reps K F vs.reverse ds.reverse
  | _, _, .nil => .nil
  | _, _, .cons h r => by
    rw [List.reverse_cons, List.reverse_cons]
    exact (Reps.reverse r).append (.cons h .nil)
theorem Reps.eraseIdx {K : Frag} {F : Hp} : ∀ {vs : List V} {ds : List PD} (n : Nat), Reps K F vs ds → Reps K F (vs.eraseIdx n) (ds.eraseIdx n)
  | _, _, _, .nil => by simp only [List.eraseIdx_nil]; exact .nil
  | _, _, 0, .cons h r => r
  | _, _, n + 1, .cons h r => .cons h (Reps.eraseIdx n r)
theorem Reps.dropLast {K : Frag} {F : Hp} {vs : List V} {ds : List PD} (r : Reps K F vs ds) : Reps K F vs.dropLast ds.dropLast := by
  rw [List.dropLast_eq_take, List.dropLast_eq_take, r.length]
  exact r.take _
end FM
namespace FM
open PySem L2

theorem rd_there {H : Hp} {a : Addr} {u : HO} (h : Rd H a u) : H a ≠ none := by
  rcases h with h | ⟨o, h⟩ <;> rw [h] <;> simp
mutual
theorem Own.there {k : Kc} {F H : Hp} : ∀ {v : V} {o : O} {S : List Addr}, Own k F H v o S → ∀ a ∈ S, H a ≠ none
  | _, _, _, .fz _, a, m => by cases m
  | _, _, _, .lst h _, a, m => by rw [List.mem_singleton.mp m]; exact rd_there h
  | _, _, _, .dic h _, a, m => by rw [List.mem_singleton.mp m]; exact rd_there h
  | _, _, _, .dit h _, a, m => by rw [List.mem_singleton.mp m]; exact rd_there h
  | _, _, _, .nst h r, a, m => by
    rcases List.mem_cons.mp m with e | m
    · rw [e]; exact rd_there h
    · exact Owns.there r a m
  | _, _, _, .ntp h r, a, m => by
    rcases List.mem_cons.mp m with e | m
    · rw [e, h]; simp
    · exact Owns.there r a m
  | _, _, _, .ndc h r, a, m => by
    rcases List.mem_cons.mp m with e | m
    · rw [e]; exact rd_there h
    · exact OwnK.there r a m
  | _, _, _, .ins h r, a, m => by
    rcases List.mem_cons.mp m with e | m
    · rw [e]; exact rd_there h
    · exact OwnF.there r a m
  | _, _, _, .ktp _ _, a, m => by cases m
  | _, _, _, .dead, a, m => by cases m
theorem Owns.there {k : Kc} {F H : Hp} : ∀ {v : List V} {o : List O} {S : List Addr}, Owns k F H v o S → ∀ a ∈ S, H a ≠ none
  | _, _, _, .nil, a, m => by cases m
  | _, _, _, .cons h r, a, m => (List.mem_append.mp m).elim (Own.there h a) (Owns.there r a)
theorem OwnK.there {k : Kc} {F H : Hp} : ∀ {v : List (Key × V)} {o : List (Key × O)} {S : List Addr}, OwnK k F H v o S → ∀ a ∈ S, H a ≠ none
  | _, _, _, .nil, a, m => by cases m
  | _, _, _, .cons h r, a, m => (List.mem_append.mp m).elim (Own.there h a) (OwnK.there r a)
theorem OwnF.there {k : Kc} {F H : Hp} : ∀ {v : List (Str × V)} {o : List (Str × O)} {S : List Addr}, OwnF k F H v o S → ∀ a ∈ S, H a ≠ none
  | _, _, _, .nil, a, m => by cases m
  | _, _, _, .cons h r, a, m => (List.mem_append.mp m).elim (Own.there h a) (OwnF.there r a)
end
theorem Envs.there {k : Kc} {F H : Hp} : ∀ {σ : L2.St} {ρ : List O} {S : List Addr}, Envs k F H σ ρ S → ∀ a ∈ S, H a ≠ none
  | _, _, _, .nil, a, m => by cases m
  | _, _, _, .dead r, a, m => Envs.there r a m
  | _, _, _, .cons h r, a, m => (List.mem_append.mp m).elim (Own.there h a) (Envs.there r a)

/-- the state of a quiet evaluation -/
structure Qs (k : Kc) (F H : Hp) (σ : L2.St) (ρ : List O) (S : List Addr) : Prop where
  fle : FLe F H
  env : Envs k F H σ ρ S
  off : ∀ a ∈ S, F a = none
theorem Xt.off {F H F' H' : Hp} (x : Xt F H F' H') {a : Addr} (h : F a = none) (t : H a ≠ none) : F' a = none := by
  cases e : F' a with
  | none => rfl
  | some u =>
    rcases x.fresh a u e with q | q
    · rw [h] at q; cases q
    · exact absurd q t
theorem Qs.xt {k : Kc} {F H F' H' : Hp} {σ : L2.St} {ρ : List O} {S : List Addr} (q : Qs k F H σ ρ S) (x : Xt F H F' H') : Qs k F' H' σ ρ S :=
  ⟨x.fle, q.env.xt x, fun a m => x.off (q.off a m) (q.env.there a m)⟩

/-! ### quiet readings -/
abbrev QE := List O → Option O
def TEv (k : Kc) (t : TE) (q : QE) : Prop := ∀ (F H : Hp) (σ : L2.St) (ρ : List O) (S : List Addr) (o : O) (Q : VK), Qs k F H σ ρ S → q ρ = some o → (∀ v F' H', Xt F H F' H' → Vw k F' H' S v o → Q v H') → t σ H Q
def TTv (k : Kc) (t : TT) (q : List O → Option Bool) : Prop := ∀ (F H : Hp) (σ : L2.St) (ρ : List O) (S : List Addr) (b : Bool) (Q : Bool → Hp → Prop), Qs k F H σ ρ S → q ρ = some b → (∀ F' H', Xt F H F' H' → Q b H') → t σ H Q
def TAv (k : Kc) (t : TA) (q : List O → Option (List O)) : Prop := ∀ (F H : Hp) (σ : L2.St) (ρ : List O) (S : List Addr) (os : List O) (Q : List V → Hp → Prop), Qs k F H σ ρ S → q ρ = some os → (∀ vs F' H', Xt F H F' H' → Vws k F' H' S vs os → Q vs H') → t σ H Q
def TOv (k : Kc) (t : TO) (q : List O → Option (Option Int)) : Prop := ∀ (F H : Hp) (σ : L2.St) (ρ : List O) (S : List Addr) (b : Option Int) (Q : Option Int → Hp → Prop), Qs k F H σ ρ S → q ρ = some b → (∀ F' H', Xt F H F' H' → Q b H') → t σ H Q
/-- a new object of one's own -/
structure Fresh (F' H H' : Hp) (T : List Addr) : Prop where
  nd : T.Nodup
  new : ∀ a ∈ T, H a = none
  off : ∀ a ∈ T, F' a = none
  nofz : ∀ a ∈ T, ∀ o u, H' a ≠ some (.frz o u)
def TEn (k : Kc) (t : TE) (q : QE) : Prop := ∀ (F H : Hp) (σ : L2.St) (ρ : List O) (S : List Addr) (o : O) (Q : VK), Qs k F H σ ρ S → q ρ = some o → (∀ v F' H' T, Xt F H F' H' → Own k F' H' v o T → Fresh F' H H' T → Q v H') → t σ H Q
/-- operations by views -/
def OpV (k : Kc) (r : R2) (f : O → O → Option O) : Prop := ∀ (F H : Hp) (S : List Addr) (x y : V) (ox oy o : O) (Q : VK), FLe F H → (∀ a ∈ S, F a = none) → (∀ a ∈ S, H a ≠ none) → Vw k F H S x ox → Vw k F H S y oy → f ox oy = some o → (∀ v F' H', Xt F H F' H' → Vw k F' H' S v o → Q v H') → r x y H Q
def UnV (k : Kc) (r : V → Hp → VK → Prop) (f : O → Option O) : Prop := ∀ (F H : Hp) (S : List Addr) (x : V) (ox o : O) (Q : VK), FLe F H → (∀ a ∈ S, F a = none) → (∀ a ∈ S, H a ≠ none) → Vw k F H S x ox → f ox = some o → (∀ v F' H', Xt F H F' H' → Vw k F' H' S v o → Q v H') → r x H Q
def CbV (k : Kc) (r : List V → Hp → VK → Prop) (f : List O → Option O) : Prop := ∀ (F H : Hp) (S : List Addr) (xs : List V) (os : List O) (o : O) (Q : VK), FLe F H → (∀ a ∈ S, F a = none) → (∀ a ∈ S, H a ≠ none) → Vws k F H S xs os → f os = some o → (∀ v F' H', Xt F H F' H' → Vw k F' H' S v o → Q v H') → r xs H Q
def CbN (k : Kc) (r : List V → Hp → VK → Prop) (f : List O → Option O) : Prop := ∀ (F H : Hp) (S : List Addr) (xs : List V) (os : List O) (o : O) (Q : VK), FLe F H → (∀ a ∈ S, F a = none) → (∀ a ∈ S, H a ≠ none) → Vws k F H S xs os → f os = some o → (∀ v F' H' T, Xt F H F' H' → Own k F' H' v o T → Fresh F' H H' T → Q v H') → r xs H Q

/-! ### the mirror's words -/
def qVar (i : Nat) : QE := fun ρ => match ρ[i]? with
  | some .dead => none
  | r => r
def qC (d : PD) : QE := fun _ => some (.fz d)
def qOp (f : O → O → Option O) (a b : QE) : QE := fun ρ => match a ρ with
  | none => none
  | some x => match b ρ with
    | none => none
    | some y => f x y
def qUn (f : O → Option O) (a : QE) : QE := fun ρ => match a ρ with
  | none => none
  | some x => f x
def qNil : List O → Option (List O) := fun _ => some []
def qCons (a : QE) (r : List O → Option (List O)) : List O → Option (List O) := fun ρ => match a ρ with
  | none => none
  | some x => match r ρ with
    | none => none
    | some xs => some (x :: xs)
def qCb (f : List O → Option O) (r : List O → Option (List O)) : QE := fun ρ => match r ρ with
  | none => none
  | some xs => f xs
def qB (a : QE) : List O → Option Bool := fun ρ => match a ρ with
  | some (.fz (.bool b)) => some b
  | _ => none
def qAnd (a b : List O → Option Bool) : List O → Option Bool := fun ρ => match a ρ with
  | some true => b ρ
  | r => r
def qOr (a b : List O → Option Bool) : List O → Option Bool := fun ρ => match a ρ with
  | some false => b ρ
  | r => r
def qNot (a : List O → Option Bool) : List O → Option Bool := fun ρ => match a ρ with
  | some b => some (!b)
  | none => none
def qAndV (a b : QE) : QE := fun ρ => match a ρ with
  | some (.fz (.bool true)) => b ρ
  | some (.fz (.bool false)) => some (.fz (.bool false))
  | _ => none
def qOrV (a b : QE) : QE := fun ρ => match a ρ with
  | some (.fz (.bool false)) => b ρ
  | some (.fz (.bool true)) => some (.fz (.bool true))
  | _ => none
def qNotV (a : QE) : QE := fun ρ => match a ρ with
  | some (.fz (.bool b)) => some (.fz (.bool (!b)))
  | _ => none
def qIf (c : List O → Option Bool) (a b : QE) : QE := fun ρ => match c ρ with
  | some true => a ρ
  | some false => b ρ
  | none => none
def qFz (a : QE) : QE := fun ρ => match a ρ with
  | some o => (toPD o).map .fz
  | none => none

section
variable {k : Kc} {ta tb te : TE} {t u : TT} {tl : TA} {qa qb : QE} {ca cb : List O → Option Bool} {qs : List O → Option (List O)}
theorem tev_var {i : Nat} : TEv k (tVar i) (qVar i) := by
  intro F H σ ρ S o Q q e h
  have e1 : ρ[i]? = some o ∧ o ≠ .dead := by
    unfold qVar at e
    split at e
    · cases e
    · rename_i hne
      refine ⟨e, fun z => hne ?_⟩
      rw [e, z]
  rcases q.env.get e1.1 with z | ⟨v, hv, w⟩
  · exact absurd z e1.2
  · exact ⟨v, hv, h v F H (Xt.refl q.fle) w⟩
theorem tev_c {v : V} {d : PD} (r : ∀ F, Rep k.K F v d) : TEv k (tC v) (qC d) := by
  intro F H σ ρ S o Q q e h
  have e' := Option.some.inj e
  subst e'
  exact h v F H (Xt.refl q.fle) (.fz (r F))
theorem tev_op {r : R2} {f : O → O → Option O} (ha : TEv k ta qa) (hb : TEv k tb qb) (hr : OpV k r f) : TEv k (tOp r ta tb) (qOp f qa qb) := by
  intro F H σ ρ S o Q q e h
  unfold qOp at e
  cases e1 : qa ρ with
  | none => rw [e1] at e; cases e
  | some x =>
    rw [e1] at e
    cases e2 : qb ρ with
    | none => simp only [e2] at e; cases e
    | some y =>
      simp only [e2] at e
      refine ha F H σ ρ S x _ q e1 fun v F1 H1 x1 w1 => ?_
      refine hb F1 H1 σ ρ S y _ (q.xt x1) e2 fun w F2 H2 x2 w2 => ?_
      have q2 := (q.xt x1).xt x2
      exact hr F2 H2 S v w x y o Q x2.fle q2.off q2.env.there (w1.xt x2) w2 e fun z F3 H3 x3 w3 => h z F3 H3 ((x1.trans x2).trans x3) w3
theorem tev_un {r : V → Hp → VK → Prop} {f : O → Option O} (ha : TEv k ta qa) (hr : UnV k r f) : TEv k (tUn r ta) (qUn f qa) := by
  intro F H σ ρ S o Q q e h
  unfold qUn at e
  cases e1 : qa ρ with
  | none => rw [e1] at e; cases e
  | some x =>
    rw [e1] at e
    refine ha F H σ ρ S x _ q e1 fun v F1 H1 x1 w1 => ?_
    have q2 := q.xt x1
    exact hr F1 H1 S v x o Q x1.fle q2.off q2.env.there w1 e fun z F3 H3 x3 w3 => h z F3 H3 (x1.trans x3) w3
theorem tav_nil : TAv k tNil qNil := by
  intro F H σ ρ S os Q q e h
  have e' := Option.some.inj e
  subst e'
  exact h [] F H (Xt.refl q.fle) .nil
theorem tav_cons (ha : TEv k te qa) (hr : TAv k tl qs) : TAv k (tCons te tl) (qCons qa qs) := by
  intro F H σ ρ S os Q q e h
  unfold qCons at e
  cases e1 : qa ρ with
  | none => rw [e1] at e; cases e
  | some x =>
    rw [e1] at e
    cases e2 : qs ρ with
    | none => simp only [e2] at e; cases e
    | some xs =>
      simp only [e2] at e
      have e' := Option.some.inj e
      subst e'
      refine ha F H σ ρ S x _ q e1 fun v F1 H1 x1 w1 => ?_
      exact hr F1 H1 σ ρ S xs _ (q.xt x1) e2 fun vs F2 H2 x2 w2 => h _ F2 H2 (x1.trans x2) (.cons (w1.xt x2) w2)
theorem tev_cb {r : List V → Hp → VK → Prop} {f : List O → Option O} (ha : TAv k tl qs) (hr : CbV k r f) : TEv k (tCB r tl) (qCb f qs) := by
  intro F H σ ρ S o Q q e h
  unfold qCb at e
  cases e1 : qs ρ with
  | none => rw [e1] at e; cases e
  | some x =>
    rw [e1] at e
    refine ha F H σ ρ S x _ q e1 fun v F1 H1 x1 w1 => ?_
    have q2 := q.xt x1
    exact hr F1 H1 S v x o Q x1.fle q2.off q2.env.there w1 e fun z F3 H3 x3 w3 => h z F3 H3 (x1.trans x3) w3
theorem ten_cb {r : List V → Hp → VK → Prop} {f : List O → Option O} (ha : TAv k tl qs) (hr : CbN k r f) : TEn k (tCB r tl) (qCb f qs) := by
  intro F H σ ρ S o Q q e h
  unfold qCb at e
  cases e1 : qs ρ with
  | none => rw [e1] at e; cases e
  | some x =>
    rw [e1] at e
    refine ha F H σ ρ S x _ q e1 fun v F1 H1 x1 w1 => ?_
    have q2 := q.xt x1
    exact hr F1 H1 S v x o Q x1.fle q2.off q2.env.there w1 e fun z F3 H3 T x3 w3 fr => h z F3 H3 T (x1.trans x3) w3 ⟨fr.nd, fun a m => none_back x1.ex (fr.new a m), fr.off, fr.nofz⟩
theorem ttv_test (ha : TEv k te qa) : TTv k (tTest te) (qB qa) := by
  intro F H σ ρ S b Q q e h
  unfold qB at e
  split at e
  · rename_i c e1
    have e' := Option.some.inj e
    subst e'
    refine ha F H σ ρ S _ _ q e1 fun v F1 H1 x1 w1 => ?_
    exact ⟨_, w1.bl, h F1 H1 x1⟩
  · cases e
theorem ttv_B (ha : TEv k te qa) : TTv k (tB te) (qB qa) := by
  intro F H σ ρ S b Q q e h
  unfold qB at e
  split at e
  · rename_i c e1
    have e' := Option.some.inj e
    subst e'
    refine ha F H σ ρ S _ _ q e1 fun v F1 H1 x1 w1 => ?_
    exact ⟨_, w1.bl, h F1 H1 x1⟩
  · cases e
theorem ttv_and (ha : TTv k t ca) (hb : TTv k u cb) : TTv k (tAnd t u) (qAnd ca cb) := by
  intro F H σ ρ S b Q q e h
  unfold qAnd at e
  cases e1 : ca ρ with
  | none => rw [e1] at e; cases e
  | some c =>
    rw [e1] at e
    refine ha F H σ ρ S c _ q e1 fun F1 H1 x1 => ?_
    cases c with
    | true =>
      rw [if_pos rfl]
      exact hb F1 H1 σ ρ S b Q (q.xt x1) e fun F2 H2 x2 => h F2 H2 (x1.trans x2)
    | false =>
      have e' := Option.some.inj e
      subst e'
      rw [if_neg (by decide)]
      exact h F1 H1 x1
theorem ttv_or (ha : TTv k t ca) (hb : TTv k u cb) : TTv k (tOr t u) (qOr ca cb) := by
  intro F H σ ρ S b Q q e h
  unfold qOr at e
  cases e1 : ca ρ with
  | none => rw [e1] at e; cases e
  | some c =>
    rw [e1] at e
    refine ha F H σ ρ S c _ q e1 fun F1 H1 x1 => ?_
    cases c with
    | false =>
      rw [if_neg (by decide)]
      exact hb F1 H1 σ ρ S b Q (q.xt x1) e fun F2 H2 x2 => h F2 H2 (x1.trans x2)
    | true =>
      have e' := Option.some.inj e
      subst e'
      rw [if_pos rfl]
      exact h F1 H1 x1
theorem ttv_not (ha : TTv k t ca) : TTv k (tNot t) (qNot ca) := by
  intro F H σ ρ S b Q q e h
  unfold qNot at e
  cases e1 : ca ρ with
  | none => rw [e1] at e; cases e
  | some c =>
    rw [e1] at e
    have e' := Option.some.inj e
    subst e'
    exact ha F H σ ρ S c _ q e1 fun F1 H1 x1 => h F1 H1 x1
theorem tev_andV (ha : TEv k ta qa) (hb : TEv k tb qb) : TEv k (tAndV ta tb) (qAndV qa qb) := by
  intro F H σ ρ S o Q q e h
  unfold qAndV at e
  split at e
  · rename_i e1
    refine ha F H σ ρ S _ _ q e1 fun v F1 H1 x1 w1 => ⟨true, w1.bl, ?_⟩
    rw [if_pos rfl]
    exact hb F1 H1 σ ρ S o Q (q.xt x1) e fun w F2 H2 x2 w2 => h w F2 H2 (x1.trans x2) w2
  · rename_i e1
    have e' := Option.some.inj e
    subst e'
    refine ha F H σ ρ S _ _ q e1 fun v F1 H1 x1 w1 => ⟨false, w1.bl, ?_⟩
    rw [if_neg (by decide)]
    exact h _ F1 H1 x1 (.fz (.bl false))
  · cases e
theorem tev_orV (ha : TEv k ta qa) (hb : TEv k tb qb) : TEv k (tOrV ta tb) (qOrV qa qb) := by
  intro F H σ ρ S o Q q e h
  unfold qOrV at e
  split at e
  · rename_i e1
    refine ha F H σ ρ S _ _ q e1 fun v F1 H1 x1 w1 => ⟨false, w1.bl, ?_⟩
    rw [if_neg (by decide)]
    exact hb F1 H1 σ ρ S o Q (q.xt x1) e fun w F2 H2 x2 w2 => h w F2 H2 (x1.trans x2) w2
  · rename_i e1
    have e' := Option.some.inj e
    subst e'
    refine ha F H σ ρ S _ _ q e1 fun v F1 H1 x1 w1 => ⟨true, w1.bl, ?_⟩
    rw [if_pos rfl]
    exact h _ F1 H1 x1 (.fz (.bl true))
  · cases e
theorem tev_notV (ha : TEv k ta qa) : TEv k (tNotV ta) (qNotV qa) := by
  intro F H σ ρ S o Q q e h
  unfold qNotV at e
  split at e
  · rename_i c e1
    have e' := Option.some.inj e
    subst e'
    exact ha F H σ ρ S _ _ q e1 fun v F1 H1 x1 w1 => ⟨c, w1.bl, h _ F1 H1 x1 (.fz (.bl _))⟩
  · cases e
theorem tev_if (hc : TTv k t ca) (ha : TEv k ta qa) (hb : TEv k tb qb) : TEv k (tIf t ta tb) (qIf ca qa qb) := by
  intro F H σ ρ S o Q q e h
  unfold qIf at e
  split at e
  · rename_i e1
    refine hc F H σ ρ S _ _ q e1 fun F1 H1 x1 => ?_
    rw [if_pos rfl]
    exact ha F1 H1 σ ρ S o Q (q.xt x1) e fun w F2 H2 x2 w2 => h w F2 H2 (x1.trans x2) w2
  · rename_i e1
    refine hc F H σ ρ S _ _ q e1 fun F1 H1 x1 => ?_
    rw [if_neg (by decide)]
    exact hb F1 H1 σ ρ S o Q (q.xt x1) e fun w F2 H2 x2 w2 => h w F2 H2 (x1.trans x2) w2
  · cases e
/-- what is new may be frozen -/
theorem tev_n (ha : TEn k te qa) : TEv k te (qFz qa) := by
  intro F H σ ρ S o Q q e h
  unfold qFz at e
  cases e1 : qa ρ with
  | none => rw [e1] at e; cases e
  | some x =>
    rw [e1] at e
    have e : (toPD x).map O.fz = some o := e
    cases e2 : toPD x with
    | none => rw [e2] at e; cases e
    | some d =>
      rw [e2] at e
      have e' := Option.some.inj e
      subst e'
      refine ha F H σ ρ S x _ q e1 fun v F1 H1 T x1 w1 fr => ?_
      refine h v (over F1 H1 T) H1 ⟨x1.ex, x1.sub.trans (over_sub fr.off), over_le x1.fle, fun a u z => ?_⟩ (.fz (w1.freeze fr.off e2))
      rcases over_fresh z with z | z
      · exact x1.fresh a u z
      · exact .inr (fr.new a z)
/-- what holds no owned thing is new, too -/
def isFz : O → Bool
  | .fz _ => true
  | _ => false
def qFzO (a : QE) : QE := fun ρ => match a ρ with
  | some (.fz d) => some (.fz d)
  | _ => none
theorem ten_v (ha : TEv k te qa) : TEn k te (qFzO qa) := by
  intro F H σ ρ S o Q q e h
  unfold qFzO at e
  split at e
  · rename_i d e1
    have e' := Option.some.inj e
    subst e'
    exact ha F H σ ρ S _ _ q e1 fun v F1 H1 x1 w1 => h v F1 H1 [] x1 (.fz w1.rep) ⟨.nil, (fun a m => by cases m), (fun a m => by cases m), (fun a m => by cases m)⟩
  · cases e
end
end FM
namespace FM
open PySem L2 PyProof.Rows

/-! ### data, by the library's own reading -/
mutual
theorem Rep.dp {K : Frag} {H : Hp} : ∀ {v : V} {d : PD}, Rep K H v d → d.canLay0 = true → Dp K H v d
  | _, _, .non, _ => .non
  | _, _, .bl b, _ => .bl b
  | _, _, .int i, _ => .int i
  | _, _, .str x, _ => .str x
  | _, _, .lst h r, c => .lst h (Reps.dp r (by simpa [PyData.canLay0] using c))
  | _, _, .tup h r, c => .tup (SqT.of h) (Reps.dp r (by simpa [PyData.canLay0] using c))
  | _, _, .dic h r e, c => by subst e; simp [PyData.canLay0] at c
  | _, _, .dit h r e, c => by subst e; simp [PyData.canLay0] at c
theorem Reps.dp {K : Frag} {H : Hp} : ∀ {v : List V} {d : List PD}, Reps K H v d → PyData.canLayAll0 d = true → DpAll K H v d
  | _, _, .nil, _ => .nil
  | _, _, .cons h r, c => by
    have c' : _ ∧ _ := Bool.and_eq_true_iff.mp (by simpa only [PyData.canLayAll0] using c)
    exact .cons (Rep.dp h c'.1) (Reps.dp r c'.2)
end

theorem list_mulW (l : Addr) (items : Array Value) (n : Nat) (dd : Option Addr) (sl : Array (Option Value)) (x : Int) (u : Tok) (hc0 : ¬(!Builtin.List.listFitsIndex x) = true) (hc1 : ¬items.size * x.toNat > (2 ^ 63 - 1) / 8) (hc2 : ¬Builtin.List.listTooLong (items.size * x.toNat) = true) :
    Meets (Builtin.«list.__mul__» ⟨[.ref l, .int x u], []⟩) (fun _ R s => s.heap.get? l = some { cls := .type "list", dict := dd, data := .seq items n, slots := sl } ∧ R (.ok (.ret (Value.ref s.heap.objs.size))) { s with heap := s.heap.push { cls := Value.type "list", data := Data.seq (List.foldl (fun x1 x2 => x1 ++ x2) #[] (List.replicate (if items.isEmpty = true then 0 else x.toNat) items)) }, toks := s.toks }) :=
  .of_wp fun prog w A R s h => by
    obtain ⟨hp, g, d, tk, os⟩ := s; obtain ⟨hl, h⟩ := h
    have hsz := AutoListH.joined_fits hc2; have f1 := AutoSeq1.idx_int; have f2 := AutoSeq1.sub_tuple_tuple; have f3 := AutoSeq1.sub_list_list; have f4 := AutoSeq1.sub_tuple_list; have f5 := AutoSeq1.sub_list_tuple
    wp_walk using AutoSeq1.wpAny_loadPart' hl; refine wpAny_ite_false (decide_eq_false (Nat.not_lt.mpr hsz)) ?_; wp_walk using AutoSeq1.wpAny_loadPart' hl; exact ⟨_, rfl, h⟩
theorem int_rmulW (a : Int) (t : Tok) (l : Addr) (items : Array Value) (n : Nat) (dd : Option Addr) (sl : Array (Option Value)) :
    Meets (Builtin.«int.__rmul__» ⟨[.int a t, .ref l], []⟩) (fun _ R s => s.heap.get? l = some { cls := .type "list", dict := dd, data := .seq items n, slots := sl } ∧ R (.ok (.ret Value.notImplemented)) s) :=
  .of_wp fun prog w A R s h => by obtain ⟨hp, g, d, tk, os⟩ := s; obtain ⟨hl, h⟩ := h; wp_walk using AutoSeq1.wpAny_loadPart' hl; exact ⟨_, rfl, h⟩

section
variable {X : Cx}
/-! ### operators -/
def rCatL (K : Frag) : R2 := fun x y H Q => ∃ a b xs ys, x = .ref a ∧ y = .ref b ∧ SqL K H a xs ∧ SqL K H b ys ∧ xs.length + ys.length ≤ sizeLine ∧ ∀ p, H p = none → Q (.ref p) (upd H p (.lst (xs ++ ys)))
theorem op_catL : OpR X (binaryOp .Add) (rCatL X.K) := by
  intro pins s σ H x y v u Q I rx ry h
  obtain ⟨l, b, xs, zs, rfl, rfl, hH, hB, hz, q⟩ := h
  cases rx
  cases ry
  obtain ⟨its, r, p1, _⟩ := I.list hH
  obtain ⟨its2, r2, p2, _⟩ := I.list hB
  obtain ⟨⟨cls, dd, data, sl⟩, ho, hc, n, hd⟩ := p1.isList
  obtain ⟨⟨cls2, dd2, data2, sl2⟩, ho2, hc2, n2, hd2⟩ := p2.isList
  simp only at hc hd hc2 hd2
  subst hc hd hc2 hd2
  have e : its.toArray ++ its2.toArray = (its ++ its2).toArray := by simp
  have l1 := r.length
  have l2 := r2.length
  refine concat_meets ⟨_, ho, rfl⟩ ⟨_, ho2, rfl⟩ noFill_list_add seq_list_add PySem.F.slot_list_add PySem.F.entry_list_add (PySem.F.args_list_add_2 _ _) (list_addW l b its.toArray its2.toArray n n2 dd dd2 sl sl2 (by simp only [List.size_toArray]; omega)) ⟨ho, ho2, ?_⟩
  rw [e]
  exact ⟨.ref _, _, I.lnew (t' := s.toks) (r.append r2) (by rw [List.length_append]; omega), rfl, q _ I.fresh⟩
def rStr : R2 := fun x y H Q => ∃ i j, x = .str i ∧ y = .str j ∧ i.length + j.length ≤ sizeLine ∧ Q (.str (i ++ j)) H
def rAddU (K : Frag) : R2 := fun x y H Q => rI0 (fun i j => .int (i + j)) x y H Q ∨ (rStr x y H Q ∨ (rCatL K x y H Q ∨ rCatA K x y H Q))
theorem op_addU : OpR X (binaryOp .Add) (rAddU X.K) := op_add.or (OpR.or op_add_str (op_catL.or op_catA))
def oAdd (x y : O) : Option O :=
  match x, y with
  | .fz (.int a), .fz (.int b) => some (.fz (.int (a + b)))
  | .fz (.str a), .fz (.str b) => if a.length + b.length ≤ sizeLine then some (.fz (.str (a ++ b))) else none
  | x, y => match seqL x, seqL y with
    | some a, some b => if a.length + b.length ≤ sizeLine then some (.fz (.list (a ++ b))) else none
    | _, _ => match seqT x, seqT y with
      | some a, some b => if a.length + b.length ≤ sizeLine then some (.fz (.tuple (a ++ b))) else none
      | _, _ => none
theorem new_list {k : Kc} {F H : Hp} {S : List Addr} {vs : List V} {ds : List PD} {Q : VK} (f : FLe F H) (r : Reps k.K F vs ds) (h : ∀ v F' H', Xt F H F' H' → Vw k F' H' S v (.fz (.list ds)) → Q v H') : ∀ p, H p = none → Q (.ref p) (upd H p (.lst vs)) := fun p hp =>
  have x := Xt.new (o := .lst vs) f hp
  h _ _ _ x (.fz (.lst (SqL.of upd_same) (r.sub x.sub)))
theorem new_tuple {k : Kc} {F H : Hp} {S : List Addr} {vs : List V} {ds : List PD} {Q : VK} (f : FLe F H) (r : Reps k.K F vs ds) (h : ∀ v F' H', Xt F H F' H' → Vw k F' H' S v (.fz (.tuple ds)) → Q v H') : ∀ p, H p = none → Q (.ref p) (upd H p (.tup vs)) := fun p hp =>
  have x := Xt.new (o := .tup vs) f hp
  h _ _ _ x (.fz (.tup upd_same (r.sub x.sub)))
theorem own_list {k : Kc} {F H : Hp} {vs : List V} {ds : List PD} {Q : VK} (f : FLe F H) (r : Reps k.K F vs ds) (h : ∀ v F' H' T, Xt F H F' H' → Own k F' H' v (.lst ds) T → Fresh F' H H' T → Q v H') : ∀ p, H p = none → Q (.ref p) (upd H p (.lst vs)) := fun p hp =>
  have x := Xt.own (o := .lst vs) f hp
  h _ _ _ [p] x (.lst (.inl upd_same) r) ⟨List.nodup_cons.mpr ⟨List.not_mem_nil, .nil⟩, (fun a m => by rw [List.mem_singleton.mp m]; exact hp), (fun a m => by rw [List.mem_singleton.mp m]; exact fle_none f hp), (fun a m o u z => by rw [List.mem_singleton.mp m, upd_same] at z; cases z)⟩
theorem seqT_eq {o : O} {ds : List PD} (e : seqT o = some ds) : o = .fz (.tuple ds) := by
  unfold seqT at e
  split at e
  · have e' := Option.some.inj e
    subst e'
    rfl
  · cases e
theorem ov_add {k : Kc} : OpV k (rAddU k.K) oAdd := by
  intro F H S x y ox oy o Q f off th wx wy e h
  unfold oAdd at e
  split at e
  · have e' := Option.some.inj e
    subst e'
    exact .inl ⟨_, _, wx.int, wy.int, h _ F H (Xt.refl f) (.fz (.int _))⟩
  · split at e
    · rename_i hz
      have e' := Option.some.inj e
      subst e'
      exact .inr (.inl ⟨_, _, wx.str, wy.str, hz, h _ F H (Xt.refl f) (.fz (.str _))⟩)
    · cases e
  · split at e
    · rename_i a b ea eb
      split at e
      · rename_i hz
        have e' := Option.some.inj e
        subst e'
        obtain ⟨p, vs, rfl, hs, rs⟩ := wx.seqL f ea
        obtain ⟨p2, vs2, rfl, hs2, rs2⟩ := wy.seqL f eb
        exact .inr (.inr (.inl ⟨p, p2, vs, vs2, rfl, rfl, hs, hs2, by rw [rs.length, rs2.length]; exact hz, new_list f (rs.append rs2) h⟩))
      · cases e
    · split at e
      · rename_i a b ea eb
        split at e
        · rename_i hz
          have e' := Option.some.inj e
          subst e'
          obtain ⟨p, vs, rfl, hs, rs⟩ := wx.seqT f ea
          obtain ⟨p2, vs2, rfl, hs2, rs2⟩ := wy.seqT f eb
          have l1 := rs.length
          have l2 := rs2.length
          rw [seqT_eq ea] at wx
          rw [seqT_eq eb] at wy
          refine .inr (.inr (.inr ⟨p, p2, vs, vs2, rfl, rfl, SqT.of hs, SqT.of hs2, by rw [l1, l2]; exact hz, fun e0 => ?_, fun _ e0 => ?_, fun _ _ => new_tuple f (rs.append rs2) h⟩))
          · have : a = [] := List.length_eq_zero_iff.mp (by rw [← l1, e0]; rfl)
            rw [this] at h
            exact h _ F H (Xt.refl f) wy
          · have : b = [] := List.length_eq_zero_iff.mp (by rw [← l2, e0]; rfl)
            rw [this, List.append_nil] at h
            exact h _ F H (Xt.refl f) wx
        · cases e
      · cases e
/-- ints -/
def oI (c : Int → Int → Bool) (g : Int → Int → PD) (x y : O) : Option O :=
  match x, y with
  | .fz (.int a), .fz (.int b) => if c a b then some (.fz (g a b)) else none
  | _, _ => none
theorem ov_I {k : Kc} {C : Int → Int → Prop} {c : Int → Int → Bool} {g : Int → Int → V} {gd : Int → Int → PD} (hc : ∀ a b, c a b = true → C a b) (hg : ∀ F a b, Rep k.K F (g a b) (gd a b)) : OpV k (rI C g) (oI c gd) := by
  intro F H S x y ox oy o Q f off th wx wy e h
  unfold oI at e
  split at e
  · split at e
    · rename_i hz
      have e' := Option.some.inj e
      subst e'
      exact ⟨_, _, wx.int, wy.int, hc _ _ hz, h _ F H (Xt.refl f) (.fz (hg F _ _))⟩
    · cases e
  · cases e
def oI0 (g : Int → Int → PD) (x y : O) : Option O :=
  match x, y with
  | .fz (.int a), .fz (.int b) => some (.fz (g a b))
  | _, _ => none
theorem ov_I0 {k : Kc} {g : Int → Int → V} {gd : Int → Int → PD} (hg : ∀ F a b, Rep k.K F (g a b) (gd a b)) : OpV k (rI0 g) (oI0 gd) := by
  intro F H S x y ox oy o Q f off th wx wy e h
  unfold oI0 at e
  split at e
  · have e' := Option.some.inj e
    subst e'
    exact ⟨_, _, wx.int, wy.int, h _ F H (Xt.refl f) (.fz (hg F _ _))⟩
  · cases e
abbrev oSub := oI0 fun a b => .int (a - b)
theorem ov_sub {k : Kc} : OpV k (rI0 fun i j => .int (i - j)) oSub := ov_I0 fun _ _ _ => .int _
/-- the left operand small, the right one small, or both of less than 300,000 bits -/
def CMulA (i j : Int) : Prop := CMul i j ∨ CMulW i j
theorem op_mulA : OpR X (binaryOp .Mult) (rI CMulA fun i j => .int (i * j)) := opI fun i j t u Q E s hc q => mul_int q (hc.elim (fun z => z.ok) fun z => z.ok)
noncomputable def small64 (i : Int) : Bool := @decide (-(2 ^ 64) < i ∧ i < 2 ^ 64) (Classical.propDecidable _)
noncomputable def cMul (i j : Int) : Bool := small64 i || small64 j || (decide (i.natAbs < 2 ^ 400000) && decide (j.natAbs < 2 ^ 400000))
theorem cMul_ok (a b : Int) (h : cMul a b = true) : CMulA a b := by
  unfold cMul small64 at h
  simp only [Bool.or_eq_true, Bool.and_eq_true, decide_eq_true_eq] at h
  rcases h with (h | h) | h
  · exact .inl (.inl h)
  · exact .inl (.inr h)
  · exact .inr (wide_mul h.1 h.2 (by decide) (by decide) (by decide))
def rRepL (K : Frag) : R2 := fun x y H Q => ∃ l k xs, x = .ref l ∧ y = .int k ∧ SqL K H l xs ∧ -(2 ^ 63) ≤ k ∧ k < 2 ^ 63 ∧ xs.length * k.toNat ≤ sizeLine ∧
  ∀ p, H p = none → Q (.ref p) (upd H p (.lst (List.replicate k.toNat xs).flatten))
theorem op_repL : OpR X (binaryOp .Mult) (rRepL X.K) := by
  intro pins s σ H x y v u Q I rx ry h
  obtain ⟨l, k, xs, rfl, rfl, hH, h1, h2, hz, q⟩ := h
  cases rx
  obtain ⟨t, rfl⟩ := ry
  obtain ⟨its, r, p1, _⟩ := I.list hH
  have hl := r.length
  obtain ⟨⟨cls, dd, data, sl⟩, e, hc, n, hd⟩ := p1.isList
  simp only at hc hd
  subst hc hd
  have hlen : its.toArray.size * k.toNat ≤ sizeLine := by rw [List.size_toArray, ← hl]; exact hz
  have hcap : ¬ its.toArray.size * k.toNat > (2 ^ 63 - 1) / 8 := by
    have : (sizeLine : Nat) ≤ (2 ^ 63 - 1) / 8 := by decide
    omega
  have hfit : ¬ (!Builtin.List.listFitsIndex k) = true := by
    rw [fitsIndex_both h1 h2]
    exact Bool.false_ne_true
  have hlong : ¬ Builtin.List.listTooLong (its.toArray.size * k.toNat) = true := by
    rw [notLongL hlen]
    exact Bool.false_ne_true
  have hnew : List.foldl (fun x1 x2 => x1 ++ x2) #[] (List.replicate (if its.toArray.isEmpty = true then 0 else k.toNat) its.toArray) = (List.replicate k.toNat its).flatten.toArray := by
    have f0 : ∀ m : Nat, List.foldl (fun x1 x2 => x1 ++ x2) #[] (List.replicate m its.toArray) = (List.replicate m its).flatten.toArray := fun m => by
      have := foldl_rep its m []
      rw [List.nil_append] at this
      exact this
    rw [f0]
    cases its with
    | nil => simp
    | cons a r' => rw [if_neg (by simp)]
  refine wpAny_binaryOp_repeat_ref (T := "list") (U := "int") (by decide) ⟨_, e, rfl⟩ (fun s' => typeIs_int s' k t) noFill_list_mul F.fills_int_mul F.slot_int_rmul repeat_list F.slot_int_index.lookup
    (call_meets F.slot_int_rmul (typeIs_int s k t) F.entry_int_rmul (F.args_int_rmul_2 _ _) (int_rmulW k t l its.toArray n dd sl)
      ⟨e, rfl, ⟨_, e, rfl⟩, call_meets F.slot_list_mul ⟨_, e, rfl⟩ F.entry_list_mul (F.args_list_mul_2 _ _) (list_mulW l its.toArray n dd sl k t hfit hcap hlong) ⟨e, ?_⟩⟩)
  rw [hnew]
  exact ⟨.ref _, _, I.lnew (t' := s.toks) (r.rep k.toNat) (by rw [PyProof.Rows.lm_len_rep_flat, Nat.mul_comm]; exact hz), rfl, q _ I.fresh⟩
theorem Reps.rep {K : Frag} {F : Hp} {vs : List V} {ds : List PD} (r : Reps K F vs ds) : ∀ n : Nat, Reps K F (List.replicate n vs).flatten (List.replicate n ds).flatten
  | 0 => by simp only [List.replicate_zero, List.flatten_nil]; exact .nil
  | n + 1 => by
    rw [List.replicate_succ, List.replicate_succ, List.flatten_cons, List.flatten_cons]
    exact r.append (Reps.rep r n)
def rMulU (K : Frag) : R2 := fun x y H Q => rI CMulA (fun i j => .int (i * j)) x y H Q ∨ rRepL K x y H Q
theorem op_mulU : OpR X (binaryOp .Mult) (rMulU X.K) := op_mulA.or op_repL
noncomputable def oMul (x y : O) : Option O :=
  match x, y with
  | .fz (.int a), .fz (.int b) => if cMul a b then some (.fz (.int (a * b))) else none
  | x, .fz (.int b) => match seqL x with
    | some a => if -(2 ^ 63) ≤ b ∧ b < 2 ^ 63 ∧ a.length * b.toNat ≤ sizeLine then some (.fz (.list (List.replicate b.toNat a).flatten)) else none
    | none => none
  | _, _ => none
theorem ov_mul {k : Kc} : OpV k (rMulU k.K) oMul := by
  intro F H S x y ox oy o Q f off th wx wy e h
  unfold oMul at e
  split at e
  · split at e
    · rename_i hz
      have e' := Option.some.inj e
      subst e'
      exact .inl ⟨_, _, wx.int, wy.int, cMul_ok _ _ hz, h _ F H (Xt.refl f) (.fz (.int _))⟩
    · cases e
  · split at e
    · rename_i a ea
      split at e
      · rename_i hz
        have e' := Option.some.inj e
        subst e'
        obtain ⟨p, vs, rfl, hs, rs⟩ := wx.seqL f ea
        exact .inr ⟨p, _, vs, rfl, wy.int, hs, hz.1, hz.2.1, by rw [rs.length]; exact hz.2.2, new_list f (rs.rep _) h⟩
      · cases e
    · cases e
  · cases e
def cDiv (_ j : Int) : Bool := decide (0 < j) && decide (j.natAbs < 2 ^ 8000)
theorem cDiv_ok (a b : Int) (h : cDiv a b = true) : CDivW a b := by
  unfold cDiv at h
  simp only [Bool.and_eq_true, decide_eq_true_eq] at h
  exact wide_div h.1 h.2 (by decide) (by decide)
abbrev oDiv := oI cDiv fun a b => .int (a / b)
theorem ov_div {k : Kc} : OpV k (rI CDivW fun i j => .int (i / j)) oDiv := ov_I cDiv_ok fun _ _ _ => .int _
abbrev oMod := oI (fun _ b => decide (0 < b)) fun a b => .int (a % b)
theorem ov_mod {k : Kc} : OpV k (rI (fun _ j => 0 < j) fun i j => .int (i % j)) oMod := ov_I (fun _ _ h => of_decide_eq_true h) fun _ _ _ => .int _
def cPow (i j : Int) : Bool := decide (0 ≤ j) && decide (j ≤ 1000000) && decide (i.natAbs < 2 ^ 64)
abbrev oPow := oI cPow fun a b => .int (a ^ b.toNat)
theorem ov_pow {k : Kc} : OpV k (rI CPow fun i j => .int (i ^ j.toNat)) oPow := ov_I (fun a b h => by
  unfold cPow at h
  simp only [Bool.and_eq_true, decide_eq_true_eq] at h
  exact ⟨h.1.1, h.1.2, h.2⟩) fun _ _ _ => .int _
abbrev oLt := oI0 fun a b => .bool (decide (a < b))
abbrev oLe := oI0 fun a b => .bool (decide (a ≤ b))
abbrev oGt := oI0 fun a b => .bool (decide (b < a))
abbrev oGe := oI0 fun a b => .bool (decide (b ≤ a))
theorem ov_lt {k : Kc} : OpV k (rI0 fun i j => .bl (decide (i < j))) oLt := ov_I0 fun _ _ _ => .bl _
theorem ov_le {k : Kc} : OpV k (rI0 fun i j => .bl (decide (i ≤ j))) oLe := ov_I0 fun _ _ _ => .bl _
theorem ov_gt {k : Kc} : OpV k (rI0 fun i j => .bl (decide (j < i))) oGt := ov_I0 fun _ _ _ => .bl _
theorem ov_ge {k : Kc} : OpV k (rI0 fun i j => .bl (decide (j ≤ i))) oGe := ov_I0 fun _ _ _ => .bl _
def oNeg : O → Option O
  | .fz (.int a) => some (.fz (.int (-a)))
  | _ => none
theorem uv_neg {k : Kc} : UnV k (rU fun i => .int (-i)) oNeg := by
  intro F H S x ox o Q f off th wx e h
  unfold oNeg at e
  split at e
  · have e' := Option.some.inj e
    subst e'
    exact ⟨_, wx.int, h _ F H (Xt.refl f) (.fz (.int _))⟩
  · cases e
/-! ### == and != -/
def rEqU (K : Frag) : R2 := fun x y H Q => rEq x y H Q ∨ rEqD K x y H Q
def rNeU (K : Frag) : R2 := fun x y H Q => rNe x y H Q ∨ rNeD K x y H Q
theorem op_eqU (hu : X.A.units + 64 < cLine) : OpR X (compareOp .Eq) (rEqU X.K) := op_eq.or (op_eqD hu)
theorem op_neU (hu : X.A.units + 64 < cLine) : OpR X (compareOp .NotEq) (rNeU X.K) := op_ne.or (op_neD hu)
def oEqD (x y : O) : Option O := match toPD x, toPD y with
  | some d, some e => if SeqAt.shaped d && SeqAt.shaped e then some (.fz (.bool (PyData.eqv d e))) else none
  | _, _ => none
def oNeD (x y : O) : Option O := match toPD x, toPD y with
  | some d, some e => if SeqAt.shaped d && SeqAt.shaped e then some (.fz (.bool (!PyData.eqv d e))) else none
  | _, _ => none
def strs2 : O → O → Option (Str × Str)
  | .fz (.str a), .fz (.str b) => some (a, b)
  | _, _ => none
def oEq (x y : O) : Option O := match strs2 x y with
  | some p => some (.fz (.bool (decide (p.1 = p.2))))
  | none => oEqD x y
def oNe (x y : O) : Option O := match strs2 x y with
  | some p => some (.fz (.bool (!decide (p.1 = p.2))))
  | none => oNeD x y
theorem strs2_eq {x y : O} {p : Str × Str} (e : strs2 x y = some p) : x = .fz (.str p.1) ∧ y = .fz (.str p.2) := by
  unfold strs2 at e
  split at e
  · have e' := Option.some.inj e
    subst e'
    exact ⟨rfl, rfl⟩
  · cases e
theorem dec_str (a b : Str) : decide (V.str a = V.str b) = decide (a = b) := decide_eq_decide.mpr ⟨fun e => V.str.inj e, fun e => by rw [e]⟩
theorem ov_eq {k : Kc} : OpV k (rEqU k.K) oEq := by
  intro F H S x y ox oy o Q f off th wx wy e h
  unfold oEq at e
  split at e
  · rename_i p ep
    obtain ⟨e1, e2⟩ := strs2_eq ep
    subst e1 e2
    have e' := Option.some.inj e
    subst e'
    have h1 := wx.str
    have h2 := wy.str
    subst h1 h2
    refine .inl ⟨rfl, ?_⟩
    rw [dec_str]
    exact h _ F H (Xt.refl f) (.fz (.bl _))
  · unfold oEqD at e
    split at e
    · rename_i d d2 e1 e2
      split at e
      · rename_i hz
        have hz := Bool.and_eq_true_iff.mp hz
        have e' := Option.some.inj e
        subst e'
        exact .inr ⟨d, d2, (wx.at_ f e1).dp (SeqAt.canLay_of_shaped hz.1), (wy.at_ f e2).dp (SeqAt.canLay_of_shaped hz.2), hz.1, hz.2, h _ F H (Xt.refl f) (.fz (.bl _))⟩
      · cases e
    · cases e
theorem ov_ne {k : Kc} : OpV k (rNeU k.K) oNe := by
  intro F H S x y ox oy o Q f off th wx wy e h
  unfold oNe at e
  split at e
  · rename_i p ep
    obtain ⟨e1, e2⟩ := strs2_eq ep
    subst e1 e2
    have e' := Option.some.inj e
    subst e'
    have h1 := wx.str
    have h2 := wy.str
    subst h1 h2
    refine .inl ⟨rfl, ?_⟩
    rw [dec_str]
    exact h _ F H (Xt.refl f) (.fz (.bl _))
  · unfold oNeD at e
    split at e
    · rename_i d d2 e1 e2
      split at e
      · rename_i hz
        have hz := Bool.and_eq_true_iff.mp hz
        have e' := Option.some.inj e
        subst e'
        exact .inr ⟨d, d2, (wx.at_ f e1).dp (SeqAt.canLay_of_shaped hz.1), (wy.at_ f e2).dp (SeqAt.canLay_of_shaped hz.2), hz.1, hz.2, h _ F H (Xt.refl f) (.fz (.bl _))⟩
      · cases e
    · cases e
/-! ### is None, is True -/
def rIsU : R2 := fun x y H Q => (y = .non ∧ Q (.bl (decide (x = .non))) H)
def oIsN (x y : O) : Option O := match y with
  | .fz .none => match toPD x with
    | some .none => some (.fz (.bool true))
    | some _ => some (.fz (.bool false))
    | none => none
  | _ => none
def oNotN (x y : O) : Option O := match y with
  | .fz .none => match toPD x with
    | some .none => some (.fz (.bool false))
    | some _ => some (.fz (.bool true))
    | none => none
  | _ => none
theorem Rep.non_iff {K : Frag} {H : Hp} {v : V} {d : PD} (h : Rep K H v d) : v = .non ↔ d = .none := by
  cases h with
  | dic _ _ e => subst e; simp
  | dit _ _ e => subst e; simp
  | _ => simp
theorem ov_isN {k : Kc} : OpV k (fun x y H Q => y = .non ∧ Q (.bl (decide (x = .non))) H) oIsN := by
  intro F H S x y ox oy o Q f off th wx wy e h
  unfold oIsN at e
  split at e
  · refine ⟨wy.non, ?_⟩
    split at e
    · rename_i e1
      have e' := Option.some.inj e
      subst e'
      rw [decide_eq_true ((wx.at_ f e1).non_iff.mpr rfl)]
      exact h _ F H (Xt.refl f) (.fz (.bl _))
    · rename_i d hd e1
      have e' := Option.some.inj e
      subst e'
      rw [decide_eq_false fun z => hd ((wx.at_ f e1).non_iff.mp z)]
      exact h _ F H (Xt.refl f) (.fz (.bl _))
    · cases e
  · cases e
theorem ov_notN {k : Kc} : OpV k (fun x y H Q => y = .non ∧ Q (.bl (!decide (x = .non))) H) oNotN := by
  intro F H S x y ox oy o Q f off th wx wy e h
  unfold oNotN at e
  split at e
  · refine ⟨wy.non, ?_⟩
    split at e
    · rename_i e1
      have e' := Option.some.inj e
      subst e'
      rw [decide_eq_true ((wx.at_ f e1).non_iff.mpr rfl)]
      exact h _ F H (Xt.refl f) (.fz (.bl _))
    · rename_i d hd e1
      have e' := Option.some.inj e
      subst e'
      rw [decide_eq_false fun z => hd ((wx.at_ f e1).non_iff.mp z)]
      exact h _ F H (Xt.refl f) (.fz (.bl _))
    · cases e
  · cases e
end
end FM
namespace FM
open PySem L2 PyProof.Rows
section
variable {X : Cx}
/-! ### is, of truths -/
def oIsB (x y : O) : Option O := match x, y with
  | .fz (.bool a), .fz (.bool b) => some (.fz (.bool (decide (a = b))))
  | _, _ => none
def oNotB (x y : O) : Option O := match x, y with
  | .fz (.bool a), .fz (.bool b) => some (.fz (.bool (!decide (a = b))))
  | _, _ => none
theorem ov_isB {k : Kc} : OpV k rIsB oIsB := by
  intro F H S x y ox oy o Q f off th wx wy e h
  unfold oIsB at e
  split at e
  · have e' := Option.some.inj e
    subst e'
    exact ⟨_, _, wx.bl, wy.bl, h _ F H (Xt.refl f) (.fz (.bl _))⟩
  · cases e
theorem ov_notB {k : Kc} : OpV k rNotB oNotB := by
  intro F H S x y ox oy o Q f off th wx wy e h
  unfold oNotB at e
  split at e
  · have e' := Option.some.inj e
    subst e'
    exact ⟨_, _, wx.bl, wy.bl, h _ F H (Xt.refl f) (.fz (.bl _))⟩
  · cases e

/-! ### dicts -/
def unkp : List (PD × PD) → Option (List (Key × PD))
  | [] => some []
  | (.int i, d) :: r => (unkp r).map fun z => (.inl i, d) :: z
  | (.str x, d) :: r => (unkp r).map fun z => (.inr x, d) :: z
  | _ :: _ => none
theorem unkp_kp : ∀ ds : List (Key × PD), unkp (ds.map kp) = some ds
  | [] => rfl
  | (.inl i, d) :: r => by
    show (unkp (r.map kp)).map _ = _
    rw [unkp_kp r]; rfl
  | (.inr i, d) :: r => by
    show (unkp (r.map kp)).map _ = _
    rw [unkp_kp r]; rfl
def unks : List PD → Option (List Key)
  | [] => some []
  | .int i :: r => (unks r).map fun z => .inl i :: z
  | .str x :: r => (unks r).map fun z => .inr x :: z
  | _ :: _ => none
theorem unks_keyD : ∀ ks : List Key, unks (ks.map keyD) = some ks
  | [] => rfl
  | .inl i :: r => by
    show (unks (r.map keyD)).map _ = _
    rw [unks_keyD r]; rfl
  | .inr i :: r => by
    show (unks (r.map keyD)).map _ = _
    rw [unks_keyD r]; rfl
def untp : List (PD × PD) → Option (List (List Key × PD))
  | [] => some []
  | (.tuple ks, d) :: r => match unks ks, untp r with
    | some k, some z => some ((k, d) :: z)
    | _, _ => none
  | _ :: _ => none
theorem untp_tp : ∀ ds : List (List Key × PD), untp (ds.map tp) = some ds
  | [] => rfl
  | (k, d) :: r => by
    show (match unks (k.map keyD), untp (r.map tp) with | some k, some z => some ((k, d) :: z) | _, _ => none) = _
    rw [unks_keyD, untp_tp r]
theorem unkp_tp {p : List Key × PD} {r : List (List Key × PD)} : unkp ((p :: r).map tp) = none := rfl
theorem untp_kp : ∀ {p : Key × PD} {r : List (Key × PD)}, untp ((p :: r).map kp) = none
  | (.inl _, _), _ => rfl
  | (.inr _, _), _ => rfl
/-- a dict by int and text keys -/
def dicK : O → Option (List (Key × PD))
  | .dic ds => some ds
  | .fz (.dict (p :: r)) => unkp (p :: r)
  | _ => none
def dicT : O → Option (List (List Key × PD))
  | .dit ds => some ds
  | .fz (.dict (p :: r)) => untp (p :: r)
  | _ => none
theorem Vw.dicK {k : Kc} {F H : Hp} {S : List Addr} {v : V} {o : O} {ds : List (Key × PD)} (h : Vw k F H S v o) (s : FLe F H) (e : FM.dicK o = some ds) : ∃ a vs, v = .ref a ∧ Rd H a (.dK vs) ∧ RepK k.K F vs ds := by
  obtain ⟨T, _, q⟩ := h
  unfold FM.dicK at e
  split at e
  · have e' := Option.some.inj e
    subst e'
    cases q with
    | dic h1 h2 => exact ⟨_, _, rfl, h1, h2⟩
  · cases q with
    | fz r =>
      cases r with
      | dic h1 h2 h3 =>
        have h3 := PyData.dict.inj h3
        rw [h3, unkp_kp] at e
        have e' := Option.some.inj e
        subst e'
        exact ⟨_, _, rfl, rd_le s h1, h2⟩
      | @dit a kvs ds2 _ h1 h2 h3 =>
        have h3 := PyData.dict.inj h3
        cases ds2 with
        | nil => cases h3
        | cons p r => rw [h3, unkp_tp] at e; cases e
  · cases e
theorem Vw.dicT {k : Kc} {F H : Hp} {S : List Addr} {v : V} {o : O} {ds : List (List Key × PD)} (h : Vw k F H S v o) (s : FLe F H) (e : FM.dicT o = some ds) : ∃ a vs, v = .ref a ∧ Rd H a (.dT vs) ∧ RepT k.K F vs ds := by
  obtain ⟨T, _, q⟩ := h
  unfold FM.dicT at e
  split at e
  · have e' := Option.some.inj e
    subst e'
    cases q with
    | dit h1 h2 => exact ⟨_, _, rfl, h1, h2⟩
  · cases q with
    | fz r =>
      cases r with
      | @dic a kvs ds2 _ h1 h2 h3 =>
        have h3 := PyData.dict.inj h3
        cases ds2 with
        | nil => cases h3
        | cons p r => rw [h3, untp_kp] at e; cases e
      | dit h1 h2 h3 =>
        have h3 := PyData.dict.inj h3
        rw [h3, untp_tp] at e
        have e' := Option.some.inj e
        subst e'
        exact ⟨_, _, rfl, rd_le s h1, h2⟩
  · cases e
def keyO : O → Option Key
  | .fz (.int i) => some (.inl i)
  | .fz (.str x) => some (.inr x)
  | _ => none
def keysO : O → Option (List Key)
  | .fz (.tuple ds) => unks ds
  | _ => none
theorem Vw.keyO {k : Kc} {F H : Hp} {S : List Addr} {v : V} {o : O} {x : Key} (h : Vw k F H S v o) (e : FM.keyO o = some x) : v = kV x := by
  unfold FM.keyO at e
  split at e
  · have e' := Option.some.inj e
    subst e'
    exact h.int
  · have e' := Option.some.inj e
    subst e'
    exact h.str
  · cases e
theorem Reps.keys {K : Frag} {F : Hp} : ∀ {vs : List V} {ds : List PD} {ks : List Key}, Reps K F vs ds → unks ds = some ks → vs = ks.map kV
  | _, _, _, .nil, e => by
    have e' := Option.some.inj e
    subst e'
    rfl
  | _, _, _, .cons (d := d) (ds := ds) h r, e => by
    cases d with
    | int i =>
      have e : (unks ds).map _ = some _ := e
      cases q : unks ds with
      | none => rw [q] at e; cases e
      | some z =>
        rw [q] at e
        have e' := Option.some.inj e
        subst e'
        rw [Reps.keys r q]
        cases h with
        | int => rfl
        | dic _ _ e => cases e
        | dit _ _ e => cases e
    | str i =>
      have e : (unks ds).map _ = some _ := e
      cases q : unks ds with
      | none => rw [q] at e; cases e
      | some z =>
        rw [q] at e
        have e' := Option.some.inj e
        subst e'
        rw [Reps.keys r q]
        cases h with
        | str => rfl
        | dic _ _ e => cases e
        | dit _ _ e => cases e
    | _ => cases e
theorem Vw.keysO {k : Kc} {F H : Hp} {S : List Addr} {v : V} {o : O} {x : List Key} (h : Vw k F H S v o) (f : FLe F H) (e : FM.keysO o = some x) : ∃ b, v = .ref b ∧ H b = some (.tup (x.map kV)) := by
  unfold FM.keysO at e
  split at e
  · obtain ⟨a, vs, rfl, h1, h2⟩ := h.seqT f rfl
    rw [h2.keys e] at h1
    exact ⟨a, rfl, h1⟩
  · cases e
def lk {κ : Type} [DecidableEq κ] {α : Type} (kvs : List (κ × α)) (k : κ) : Option α := (kvs.find? fun p => decide (p.1 = k)).map (·.2)
theorem RepK.val {K : Frag} {F : Hp} (x : Key) : ∀ {vs : List (Key × V)} {ds : List (Key × PD)}, RepK K F vs ds → (lk ds x = none ∧ valV vs x = none) ∨ ∃ d v, lk ds x = some d ∧ valV vs x = some v ∧ Rep K F v d
  | _, _, .nil => .inl ⟨rfl, rfl⟩
  | _, _, .cons (k := k) h r => by
    by_cases e : k = x
    · refine .inr ⟨_, _, ?_, valV_pos e, h⟩
      simp [lk, List.find?_cons, e]
    · rcases RepK.val x r with ⟨q1, q2⟩ | ⟨d, v, q1, q2, q3⟩
      · refine .inl ⟨?_, by rw [valV_neg e]; exact q2⟩
        simpa [lk, List.find?_cons, e] using q1
      · refine .inr ⟨d, v, ?_, by rw [valV_neg e]; exact q2, q3⟩
        simpa [lk, List.find?_cons, e] using q1
theorem RepT.val {K : Frag} {F : Hp} (x : List Key) : ∀ {vs : List (List Key × V)} {ds : List (List Key × PD)}, RepT K F vs ds → (lk ds x = none ∧ valV vs x = none) ∨ ∃ d v, lk ds x = some d ∧ valV vs x = some v ∧ Rep K F v d
  | _, _, .nil => .inl ⟨rfl, rfl⟩
  | _, _, .cons (k := k) h r => by
    by_cases e : k = x
    · refine .inr ⟨_, _, ?_, valV_pos e, h⟩
      simp [lk, List.find?_cons, e]
    · rcases RepT.val x r with ⟨q1, q2⟩ | ⟨d, v, q1, q2, q3⟩
      · refine .inl ⟨?_, by rw [valV_neg e]; exact q2⟩
        simpa [lk, List.find?_cons, e] using q1
      · refine .inr ⟨d, v, ?_, by rw [valV_neg e]; exact q2, q3⟩
        simpa [lk, List.find?_cons, e] using q1
/-- what a dict holds at a key -/
def oLook (d x : O) : Option (Option PD) := match dicK d, keyO x with
  | some ds, some k => some (lk ds k)
  | _, _ => match dicT d, keysO x with
    | some ds, some k => some (lk ds k)
    | _, _ => none
theorem look_ok {k : Kc} {F H : Hp} {S : List Addr} {x y : V} {ox oy : O} {r : Option PD} (wx : Vw k F H S x ox) (wy : Vw k F H S y oy) (f : FLe F H) (e : oLook ox oy = some r) :
    ∃ a z, x = .ref a ∧ DGet H a y z ∧ ((r = none ∧ z = none) ∨ ∃ d v, r = some d ∧ z = some v ∧ Rep k.K F v d) := by
  unfold oLook at e
  split at e
  · rename_i ds kk e1 e2
    have e' := Option.some.inj e
    subst e'
    obtain ⟨a, vs, rfl, h1, h2⟩ := wx.dicK f e1
    refine ⟨a, valV vs kk, rfl, .inl ⟨vs, kk, h1, wy.keyO e2, rfl⟩, ?_⟩
    exact h2.val kk
  · split at e
    · rename_i ds kk e1 e2
      have e' := Option.some.inj e
      subst e'
      obtain ⟨a, vs, rfl, h1, h2⟩ := wx.dicT f e1
      obtain ⟨b, rfl, h3⟩ := wy.keysO f e2
      refine ⟨a, valV vs kk, rfl, .inr ⟨vs, kk, b, h1, rfl, h3, rfl⟩, ?_⟩
      exact h2.val kk
    · cases e
def rIxD : R2 := fun x y H Q => ∃ a v, x = .ref a ∧ DGet H a y (some v) ∧ Q v H
theorem ix_dict (hu : X.A.units + 1 < cLine) : IxR X rIxD := by
  intro value slice pins s σ H x y v u Q I rx ry h hs
  obtain ⟨a, z, rfl, g, q⟩ := h
  cases rx
  exact tail_any (dict_typeIs I g) PySem.F.slot_dict_getitem.lookup (d_getItem hu I g ry fun w' s' I' r => ⟨z, H, I', r, q⟩) hs
def rIxU (K : Frag) : R2 := fun x y H Q => rIx K x y H Q ∨ rIxD x y H Q
theorem ix_U (hu : X.A.units + 1 < cLine) : IxR X (rIxU X.K) := ix_seq.or (ix_dict hu)
/-- x[i] -/
def oIx (x y : O) : Option O := match y with
  | .fz (.int i) => match seqL x with
    | some ds => (atI ds i).map .fz
    | none => match seqR x with
      | some ds => (atI ds i).map .fz
      | none => match x with
        | .fz (.str z) => if z.length ≤ sizeLine then (atI z.cps.toList i).map fun c => .fz (.str ⟨#[c]⟩) else none
        | .nst os => atI os i
        | .ntp os => atI os i
        | x => match oLook x y with
          | some (some d) => some (.fz d)
          | _ => none
  | y => match oLook x y with
    | some (some d) => some (.fz d)
    | _ => match x, keyO y with
      | .ndc os, some k => lk os k
      | _, _ => none
theorem Reps.at_ {K : Frag} {F : Hp} {vs : List V} {ds : List PD} {i : Int} {d : PD} (r : Reps K F vs ds) (e : atI ds i = some d) : ∃ v, atI vs i = some v ∧ Rep K F v d := by
  unfold atI at e ⊢
  rw [r.length]
  cases q : ixN ds.length i with
  | none => rw [q] at e; cases e
  | some j =>
    rw [q] at e
    exact r.get (i := j) e
inductive Ows (k : Kc) (F H : Hp) (S : List Addr) : List V → List O → Prop
  | nil : Ows k F H S [] []
  | cons {v : V} {o : O} {vs : List V} {os : List O} : Vw k F H S v o → Ows k F H S vs os → Ows k F H S (v :: vs) (o :: os)
theorem Owns.views {k : Kc} {F H : Hp} {U : List Addr} : ∀ {vs : List V} {os : List O} {S : List Addr}, (∀ a ∈ S, a ∈ U) → Owns k F H vs os S → Ows k F H U vs os
  | _, _, _, _, .nil => .nil
  | _, _, _, m, .cons h r => .cons ⟨_, fun a z => m a (List.mem_append_left _ z), h⟩ (Owns.views (fun a z => m a (List.mem_append_right _ z)) r)
theorem Ows.length {k : Kc} {F H : Hp} {S : List Addr} : ∀ {vs : List V} {os : List O}, Ows k F H S vs os → vs.length = os.length
  | _, _, .nil => rfl
  | _, _, .cons _ r => congrArg (· + 1) (Ows.length r)
theorem Ows.get {k : Kc} {F H : Hp} {S : List Addr} : ∀ {vs : List V} {os : List O} {i : Nat} {o : O}, Ows k F H S vs os → os[i]? = some o → ∃ v, vs[i]? = some v ∧ Vw k F H S v o
  | _, _, _, _, .nil, e => by simp at e
  | _, _, 0, _, .cons h r, e => by
    have e' : _ = _ := Option.some.inj (by simpa using e)
    subst e'
    exact ⟨_, rfl, h⟩
  | _, _, i + 1, _, .cons h r, e => by
    obtain ⟨v, q, w⟩ := Ows.get (i := i) r (by simpa using e)
    exact ⟨v, by simpa using q, w⟩
theorem Ows.at_ {k : Kc} {F H : Hp} {S : List Addr} {vs : List V} {os : List O} {i : Int} {o : O} (r : Ows k F H S vs os) (e : atI os i = some o) : ∃ v, atI vs i = some v ∧ Vw k F H S v o := by
  unfold atI at e ⊢
  rw [r.length]
  cases q : ixN os.length i with
  | none => rw [q] at e; cases e
  | some j =>
    rw [q] at e
    exact r.get (i := j) e
theorem OwnK.val {k : Kc} {F H : Hp} {U : List Addr} (x : Key) : ∀ {vs : List (Key × V)} {os : List (Key × O)} {S : List Addr} {o : O}, (∀ a ∈ S, a ∈ U) → OwnK k F H vs os S → lk os x = some o → ∃ v, valV vs x = some v ∧ Vw k F H U v o
  | _, _, _, _, _, .nil, e => by cases e
  | _, _, _, o, m, .cons (x := y) (o := o1) (os := os) h r, e => by
    by_cases q : y = x
    · have e1 : some o1 = some o := by simpa [lk, List.find?_cons, q] using e
      have e' := Option.some.inj e1
      subst e'
      exact ⟨_, valV_pos q, _, fun a z => m a (List.mem_append_left _ z), h⟩
    · have e1 : lk os x = some o := by simpa [lk, List.find?_cons, q] using e
      obtain ⟨v, h1, h2⟩ := OwnK.val x (fun a z => m a (List.mem_append_right _ z)) r e1
      exact ⟨v, by rw [valV_neg q]; exact h1, h2⟩
theorem ov_ix {k : Kc} : OpV k (rIxU k.K) oIx := by
  intro F H S x y ox oy o Q f off th wx wy e h
  have dict : ∀ {d : PD}, oLook ox oy = some (some d) → o = .fz d → rIxU k.K x y H Q := fun {d} e1 e2 => by
    subst e2
    obtain ⟨a, z, rfl, g, r⟩ := look_ok wx wy f e1
    rcases r with ⟨r, _⟩ | ⟨d', v, r1, r2, r3⟩
    · cases r
    · have r1' := Option.some.inj r1
      subst r1'
      subst r2
      exact .inr ⟨a, v, rfl, g, h _ F H (Xt.refl f) (.fz r3)⟩
  unfold oIx at e
  split at e
  · split at e
    · rename_i ds es
      obtain ⟨a, vs, rfl, h1, h2⟩ := wx.seqL f es
      obtain ⟨d, e1, e2⟩ := Option.map_eq_some_iff.mp e
      subst e2
      obtain ⟨v, h3, h4⟩ := h2.at_ e1
      exact .inl (.inl ⟨a, vs, _, v, rfl, wy.int, h1, h3, h _ F H (Xt.refl f) (.fz h4)⟩)
    · split at e
      · rename_i ds es
        obtain ⟨a, vs, rfl, h1, h2⟩ := wx.seqR f es
        obtain ⟨d, e1, e2⟩ := Option.map_eq_some_iff.mp e
        subst e2
        obtain ⟨v, h3, h4⟩ := h2.at_ e1
        exact .inl (.inr (.inl ⟨a, vs, _, v, rfl, wy.int, h1, h3, h _ F H (Xt.refl f) (.fz h4)⟩))
      · split at e
        · split at e
          · rename_i hz
            obtain ⟨c, e1, e2⟩ := Option.map_eq_some_iff.mp e
            subst e2
            exact .inl (.inr (.inr ⟨_, _, c, wx.str, wy.int, hz, e1, h _ F H (Xt.refl f) (.fz (.str _))⟩))
          · cases e
        · obtain ⟨T, m, q⟩ := wx
          cases q with
          | nst h1 h2 =>
            obtain ⟨v, h3, h4⟩ := (Owns.views (fun a z => m a (List.mem_cons_of_mem _ z)) h2).at_ e
            exact .inl (.inl ⟨_, _, _, v, rfl, wy.int, .inl h1, h3, h _ F H (Xt.refl f) h4⟩)
        · obtain ⟨T, m, q⟩ := wx
          cases q with
          | ntp h1 h2 =>
            obtain ⟨v, h3, h4⟩ := (Owns.views (fun a z => m a (List.mem_cons_of_mem _ z)) h2).at_ e
            exact .inl (.inr (.inl ⟨_, _, _, v, rfl, wy.int, SqT.of h1, h3, h _ F H (Xt.refl f) h4⟩))
        · split at e
          · rename_i e1
            exact dict e1 (Option.some.inj e).symm
          · cases e
  · split at e
    · rename_i e1
      exact dict e1 (Option.some.inj e).symm
    · split at e
      · rename_i os kk e2 _
        obtain ⟨T, m, q⟩ := wx
        cases q with
        | ndc h1 h2 =>
          obtain ⟨v, h3, h4⟩ := OwnK.val kk (fun a z => m a (List.mem_cons_of_mem _ z)) h2 e
          exact .inr ⟨_, v, rfl, .inl ⟨_, kk, h1, wy.keyO e2, h3.symm⟩, h _ F H (Xt.refl f) h4⟩
      · cases e
end
end FM
namespace FM
open PySem L2 PyProof.Rows
section
variable {X : Cx}
/-! ### in -/
theorem op_inT (hu : X.A.units + 65 < cLine) : OpR X (compareOp .In) (fun x y H Q => ∃ d ds, Dp X.K H x d ∧ Dp X.K H y (.tuple ds) ∧ SeqAt.shaped d = true ∧ SeqAt.shaped (.tuple ds) = true ∧ Q (.bl (ds.any fun z => PyData.eqv z d)) H) := by
  intro pins s σ H x y v u Q I rx ry h
  obtain ⟨d, ds, hd, he, sd, se, q⟩ := h
  obtain ⟨as, r1⟩ := Dp.reads I d x v hd rx
  obtain ⟨bs, r2⟩ := Dp.reads I (.tuple ds) y u he ry
  exact SeqAt.in_tuple_reads r2 r1 (SeqAt.canLay_of_shaped se) (SeqAt.canLay_of_shaped sd) (room_in_shaped sd hu) ⟨.bl _, H, I, rfl, q⟩
theorem op_notInT (hu : X.A.units + 65 < cLine) : OpR X (compareOp .NotIn) (fun x y H Q => ∃ d ds, Dp X.K H x d ∧ Dp X.K H y (.tuple ds) ∧ SeqAt.shaped d = true ∧ SeqAt.shaped (.tuple ds) = true ∧ Q (.bl (!ds.any fun z => PyData.eqv z d)) H) := by
  intro pins s σ H x y v u Q I rx ry h
  obtain ⟨d, ds, hd, he, sd, se, q⟩ := h
  obtain ⟨as, r1⟩ := Dp.reads I d x v hd rx
  obtain ⟨bs, r2⟩ := Dp.reads I (.tuple ds) y u he ry
  exact SeqAt.notIn_tuple_reads r2 r1 (SeqAt.canLay_of_shaped se) (SeqAt.canLay_of_shaped sd) (room_in_shaped sd hu) ⟨.bl _, H, I, rfl, q⟩
def rIn1 : R2 := fun x y H Q => ∃ i j, x = .str i ∧ y = .str j ∧ Q (.bl (!(Builtin.Str.occurrences j i 0 j.length 1).isEmpty)) H
def rNin1 : R2 := fun x y H Q => ∃ i j, x = .str i ∧ y = .str j ∧ Q (.bl (!(!(Builtin.Str.occurrences j i 0 j.length 1).isEmpty))) H
def rInDc : R2 := fun x y H Q => ∃ a o, y = .ref a ∧ DGet H a x o ∧ Q (.bl o.isSome) H
def rNinDc : R2 := fun x y H Q => ∃ a o, y = .ref a ∧ DGet H a x o ∧ Q (.bl (!o.isSome)) H
theorem op_inDc (hu : X.A.units + 1 < cLine) : OpR X (compareOp .In) rInDc := by
  intro pins s σ H x y v u Q I rx ry h
  obtain ⟨a, o, rfl, g, q⟩ := h
  cases ry
  exact d_in hu I g rx fun s' I' => ⟨.bl _, H, I', rfl, q⟩
theorem op_ninDc (hu : X.A.units + 1 < cLine) : OpR X (compareOp .NotIn) rNinDc := by
  intro pins s σ H x y v u Q I rx ry h
  obtain ⟨a, o, rfl, g, q⟩ := h
  cases ry
  exact d_notIn hu I g rx fun s' I' => ⟨.bl _, H, I', rfl, q⟩
def rInU (K : Frag) : R2 := fun x y H Q => rInD K x y H Q ∨ ((∃ d ds, Dp K H x d ∧ Dp K H y (.tuple ds) ∧ SeqAt.shaped d = true ∧ SeqAt.shaped (.tuple ds) = true ∧ Q (.bl (ds.any fun z => PyData.eqv z d)) H) ∨ (rIn1 x y H Q ∨ rInDc x y H Q))
def rNinU (K : Frag) : R2 := fun x y H Q => rNotInD K x y H Q ∨ ((∃ d ds, Dp K H x d ∧ Dp K H y (.tuple ds) ∧ SeqAt.shaped d = true ∧ SeqAt.shaped (.tuple ds) = true ∧ Q (.bl (!ds.any fun z => PyData.eqv z d)) H) ∨ (rNin1 x y H Q ∨ rNinDc x y H Q))
theorem op_inU (hu : X.A.units + 65 < cLine) : OpR X (compareOp .In) (rInU X.K) := (op_inD hu).or ((op_inT hu).or (OpR.or op_in_str (op_inDc (by omega))))
theorem op_ninU (hu : X.A.units + 65 < cLine) : OpR X (compareOp .NotIn) (rNinU X.K) := (op_notInD hu).or ((op_notInT hu).or (OpR.or op_notin_str (op_ninDc (by omega))))
/-- is x among y -/
def bIn (x y : O) : Option Bool := match x, y with
  | .fz (.str i), .fz (.str j) => some (!(Builtin.Str.occurrences j i 0 j.length 1).isEmpty)
  | x, y => match toPD x, seqL y with
    | some d, some ds => if SeqAt.shaped d && SeqAt.shaped (.list ds) then some (ds.any fun z => PyData.eqv z d) else none
    | some d, none => match seqR y with
      | some ds => if SeqAt.shaped d && SeqAt.shaped (.tuple ds) then some (ds.any fun z => PyData.eqv z d) else none
      | none => match oLook y x with
        | some r => some r.isSome
        | none => none
    | none, _ => none
def oIn (x y : O) : Option O := (bIn x y).map fun b => .fz (.bool b)
def oNin (x y : O) : Option O := (bIn x y).map fun b => .fz (.bool (!b))
theorem bin_ok {k : Kc} {F H : Hp} {S : List Addr} {x y : V} {ox oy : O} {b : Bool} (f : FLe F H) (wx : Vw k F H S x ox) (wy : Vw k F H S y oy) (e : bIn ox oy = some b) :
    (∀ Q : VK, Q (.bl b) H → rInU k.K x y H Q) ∧ (∀ Q : VK, Q (.bl (!b)) H → rNinU k.K x y H Q) := by
  unfold bIn at e
  split at e
  · have e' := Option.some.inj e
    subst e'
    exact ⟨fun Q h => .inr (.inr (.inl ⟨_, _, wx.str, wy.str, h⟩)), fun Q h => .inr (.inr (.inl ⟨_, _, wx.str, wy.str, h⟩))⟩
  · split at e
    · rename_i d ds e1 e2
      split at e
      · rename_i hz
        have hz := Bool.and_eq_true_iff.mp hz
        have e' := Option.some.inj e
        subst e'
        obtain ⟨a, vs, rfl, h1, h2⟩ := wy.seqL f e2
        have p1 := (wx.at_ f e1).dp (SeqAt.canLay_of_shaped hz.1)
        have p2 : Dp k.K H (.ref a) (.list ds) := (Rep.lst h1 (h2.le f)).dp (SeqAt.canLay_of_shaped hz.2)
        exact ⟨fun Q h => .inl ⟨d, ds, p1, p2, hz.1, hz.2, h⟩, fun Q h => .inl ⟨d, ds, p1, p2, hz.1, hz.2, h⟩⟩
      · cases e
    · rename_i d e1 e2
      split at e
      · rename_i ds e3
        split at e
        · rename_i hz
          have hz := Bool.and_eq_true_iff.mp hz
          have e' := Option.some.inj e
          subst e'
          obtain ⟨a, vs, rfl, h1, h2⟩ := wy.seqR f e3
          have p1 := (wx.at_ f e1).dp (SeqAt.canLay_of_shaped hz.1)
          have p2 : Dp k.K H (.ref a) (.tuple ds) := .tup h1 ((h2.le f).dp (by
            have := SeqAt.canLay_of_shaped hz.2
            simpa [PyData.canLay0] using this))
          exact ⟨fun Q h => .inr (.inl ⟨d, ds, p1, p2, hz.1, hz.2, h⟩), fun Q h => .inr (.inl ⟨d, ds, p1, p2, hz.1, hz.2, h⟩)⟩
        · cases e
      · split at e
        · rename_i r e4
          have e' := Option.some.inj e
          subst e'
          obtain ⟨a, z, rfl, g, q⟩ := look_ok wy wx f e4
          have ez : z.isSome = r.isSome := by
            rcases q with ⟨q1, q2⟩ | ⟨d', v, q1, q2, _⟩ <;> rw [q1, q2] <;> rfl
          exact ⟨fun Q h => .inr (.inr (.inr ⟨a, z, rfl, g, by rw [ez]; exact h⟩)), fun Q h => .inr (.inr (.inr ⟨a, z, rfl, g, by rw [ez]; exact h⟩))⟩
        · cases e
    · cases e
theorem ov_in {k : Kc} : OpV k (rInU k.K) oIn := by
  intro F H S x y ox oy o Q f off th wx wy e h
  obtain ⟨b, e1, e2⟩ := Option.map_eq_some_iff.mp e
  subst e2
  exact (bin_ok f wx wy e1).1 Q (h _ F H (Xt.refl f) (.fz (.bl _)))
theorem ov_nin {k : Kc} : OpV k (rNinU k.K) oNin := by
  intro F H S x y ox oy o Q f off th wx wy e h
  obtain ⟨b, e1, e2⟩ := Option.map_eq_some_iff.mp e
  subst e2
  exact (bin_ok f wx wy e1).2 Q (h _ F H (Xt.refl f) (.fz (.bl _)))
/-! ### slices -/
def rSlU (K : Frag) : V → Option Int → Option Int → Hp → VK → Prop := fun x lo hi H Q => rSlL K x lo hi H Q ∨ (rSlA K x lo hi H Q ∨ rSlS x lo hi H Q)
theorem sl_U : SlR X (rSlU X.K) := sl_list.or (sl_tupA.or sl_str)
def cut {α : Type} (xs : List α) (lo hi : Option Int) : List α := (xs.drop (HT.sIx xs.length 0 lo)).take (HT.sIx xs.length xs.length hi - HT.sIx xs.length 0 lo)
theorem Reps.cut {K : Frag} {F : Hp} {vs : List V} {ds : List PD} (r : Reps K F vs ds) (lo hi : Option Int) : Reps K F (cutV vs lo hi) (FM.cut ds lo hi) := by
  unfold cutV FM.cut
  rw [r.length]
  exact (r.drop _).take _
theorem cut_whole {α : Type} {xs : List α} {lo hi : Option Int} (h : HT.sIx xs.length 0 lo = 0 ∧ HT.sIx xs.length xs.length hi = xs.length) : FM.cut xs lo hi = xs := by
  unfold FM.cut
  rw [h.1, h.2]
  simp
def oSl (x : O) (lo hi : Option Int) : Option O := match seqL x with
  | some ds => some (.fz (.list (cut ds lo hi)))
  | none => match x with
    | .fz (.tuple ds) => some (.fz (.tuple (cut ds lo hi)))
    | .fz (.str z) => if z.length ≤ sizeLine then some (.fz (.str (cutS z lo hi))) else none
    | _ => none
def qSl (a : QE) (lo hi : List O → Option (Option Int)) : QE := fun ρ => match a ρ with
  | none => none
  | some x => match lo ρ with
    | none => none
    | some l => match hi ρ with
      | none => none
      | some u => oSl x l u
def qNo : List O → Option (Option Int) := fun _ => some none
def qPart (a : QE) : List O → Option (Option Int) := fun ρ => match a ρ with
  | some (.fz (.int i)) => some (some i)
  | _ => none
theorem tov_no {k : Kc} : TOv k tNoPart qNo := by
  intro F H σ ρ S b Q q e h
  have e' := Option.some.inj e
  subst e'
  exact h F H (Xt.refl q.fle)
theorem tov_part {k : Kc} {te : TE} {qa : QE} (ha : TEv k te qa) : TOv k (tPart te) (qPart qa) := by
  intro F H σ ρ S b Q q e h
  unfold qPart at e
  split at e
  · rename_i i e1
    have e' := Option.some.inj e
    subst e'
    exact ha F H σ ρ S _ _ q e1 fun v F1 H1 x1 w1 => ⟨i, w1.int, h F1 H1 x1⟩
  · cases e
theorem tev_sl {k : Kc} {te : TE} {tl th : TO} {qa : QE} {ql qh : List O → Option (Option Int)} (ha : TEv k te qa) (hl : TOv k tl ql) (hh : TOv k th qh) : TEv k (tSl (rSlU k.K) te tl th) (qSl qa ql qh) := by
  intro F H σ ρ S o Q q e h
  unfold qSl at e
  cases e1 : qa ρ with
  | none => rw [e1] at e; cases e
  | some x =>
    rw [e1] at e
    cases e2 : ql ρ with
    | none => simp only [e2] at e; cases e
    | some l =>
      simp only [e2] at e
      cases e3 : qh ρ with
      | none => simp only [e3] at e; cases e
      | some u =>
        simp only [e3] at e
        refine ha F H σ ρ S x _ q e1 fun v F1 H1 x1 w1 => ?_
        have q1 := q.xt x1
        refine hl F1 H1 σ ρ S l _ q1 e2 fun F2 H2 x2 => ?_
        have q2 := q1.xt x2
        refine hh F2 H2 σ ρ S u _ q2 e3 fun F3 H3 x3 => ?_
        have w3 := (w1.xt x2).xt x3
        have h3 : ∀ v F' H', Xt F3 H3 F' H' → Vw k F' H' S v o → Q v H' := fun v F' H' x w => h v F' H' (((x1.trans x2).trans x3).trans x) w
        unfold oSl at e
        split at e
        · rename_i ds es
          have e' := Option.some.inj e
          subst e'
          obtain ⟨a, vs, rfl, g1, g2⟩ := w3.seqL x3.fle es
          exact .inl ⟨a, vs, rfl, g1, new_list x3.fle (g2.cut l u) h3⟩
        · split at e
          · rename_i ds _
            have e' := Option.some.inj e
            subst e'
            obtain ⟨a, vs, rfl, g1, g2⟩ := w3.seqT x3.fle rfl
            refine .inr (.inl ⟨a, vs, rfl, SqT.of g1, fun z => ?_, fun _ => new_tuple x3.fle (g2.cut l u) h3⟩)
            rw [g2.length] at z
            rw [cut_whole z] at h3
            exact h3 _ F3 H3 (Xt.refl x3.fle) w3
          · split at e
            · rename_i hz
              have e' := Option.some.inj e
              subst e'
              exact .inr (.inr ⟨_, w3.str, hz, h3 _ F3 H3 (Xt.refl x3.fle) (.fz (.str _))⟩)
            · cases e
          · cases e
/-! ### len -/
def rLenU (K : Frag) : List V → Hp → VK → Prop := fun xs H Q => (∃ x n, xs = [x] ∧ LenV K x H n ∧ Q (.int n) H) ∨ ∃ a kvs, xs = [.ref a] ∧ Rd H a (.dK kvs) ∧ Q (.int (kvs.length : Int)) H
theorem call_lenU : CallR X (.builtin "len") (rLenU X.K) := by
  refine CallR.or call_len ?_
  intro pins s σ H xs us Q I r h
  obtain ⟨a, kvs, rfl, hd, q⟩ := h
  obtain ⟨u, rfl, ru⟩ := vals1 r
  cases ru
  exact d_len I hd fun t s' I' => ⟨.int _, H, I', ⟨t, rfl⟩, q⟩
def oLen1 (x : O) : Option O := match seqL x with
  | some ds => some (.fz (.int ds.length))
  | none => match seqR x with
    | some ds => some (.fz (.int ds.length))
    | none => match x with
      | .fz (.str z) => if z.length ≤ sizeLine then some (.fz (.int z.length)) else none
      | .nst os => some (.fz (.int os.length))
      | .ntp os => some (.fz (.int os.length))
      | x => match dicK x with
        | some ds => some (.fz (.int ds.length))
        | none => none
def oLen : List O → Option O
  | [x] => oLen1 x
  | _ => none
theorem RepK.length {K : Frag} {F : Hp} : ∀ {vs : List (Key × V)} {ds : List (Key × PD)}, RepK K F vs ds → vs.length = ds.length
  | _, _, .nil => rfl
  | _, _, .cons _ r => congrArg (· + 1) (RepK.length r)
theorem Owns.length {k : Kc} {F H : Hp} : ∀ {vs : List V} {os : List O} {S : List Addr}, Owns k F H vs os S → vs.length = os.length
  | _, _, _, .nil => rfl
  | _, _, _, .cons _ r => congrArg (· + 1) (Owns.length r)
theorem cb_len {k : Kc} : CbV k (rLenU k.K) oLen := by
  intro F H S xs os o Q f off th ws e h
  unfold oLen at e
  split at e
  · cases ws with
    | cons w ws =>
      cases ws
      have fin : ∀ {n : Nat}, o = .fz (.int n) → Q (.int (n : Int)) H := fun e' => by
        subst e'
        exact h _ F H (Xt.refl f) (.fz (.int _))
      unfold oLen1 at e
      split at e
      · rename_i ds es
        obtain ⟨a, vs, rfl, g1, g2⟩ := w.seqL f es
        exact .inl ⟨_, vs.length, rfl, .inl ⟨vs, g1, rfl⟩, fin (by rw [g2.length]; exact (Option.some.inj e).symm)⟩
      · split at e
        · rename_i ds es
          obtain ⟨a, vs, rfl, g1, g2⟩ := w.seqR f es
          exact .inl ⟨_, vs.length, rfl, .inr ⟨vs, g1, rfl⟩, fin (by rw [g2.length]; exact (Option.some.inj e).symm)⟩
        · split at e
          · split at e
            · rename_i hz
              have ew := w.str
              subst ew
              exact .inl ⟨_, _, rfl, ⟨hz, rfl⟩, fin (Option.some.inj e).symm⟩
            · cases e
          · obtain ⟨T, m, q⟩ := w
            cases q with
            | nst h1 h2 => exact .inl ⟨_, _, rfl, .inl ⟨_, .inl h1, rfl⟩, fin (by rw [h2.length]; exact (Option.some.inj e).symm)⟩
          · obtain ⟨T, m, q⟩ := w
            cases q with
            | ntp h1 h2 => exact .inl ⟨_, _, rfl, .inr ⟨_, SqT.of h1, rfl⟩, fin (by rw [h2.length]; exact (Option.some.inj e).symm)⟩
          · split at e
            · rename_i ds es
              obtain ⟨a, vs, rfl, g1, g2⟩ := w.dicK f es
              exact .inr ⟨a, vs, rfl, g1, fin (by rw [g2.length]; exact (Option.some.inj e).symm)⟩
            · cases e
  · cases e
/-! ### list(x), tuple(x) -/
def rListU (K : Frag) : List V → Hp → VK → Prop := fun xs H Q => ∃ p ys, xs = [.ref p] ∧ (SqL K H p ys ∨ SqT K H p ys) ∧ ∀ l, H l = none → Q (.ref l) (upd H l (.lst ys))
def oList : List O → Option O
  | [x] => match seqL x with
    | some ds => some (.lst ds)
    | none => match seqR x with
      | some ds => some (.lst ds)
      | none => none
  | _ => none
theorem cn_list {k : Kc} : CbN k (rListU k.K) oList := by
  intro F H S xs os o Q f off th ws e h
  unfold oList at e
  split at e
  · cases ws with
    | cons w ws =>
      cases ws
      split at e
      · rename_i ds es
        have e' := Option.some.inj e
        subst e'
        obtain ⟨a, vs, rfl, g1, g2⟩ := w.seqL f es
        exact ⟨a, vs, rfl, .inl g1, own_list f g2 h⟩
      · split at e
        · rename_i ds es
          have e' := Option.some.inj e
          subst e'
          obtain ⟨a, vs, rfl, g1, g2⟩ := w.seqR f es
          exact ⟨a, vs, rfl, .inr g1, own_list f g2 h⟩
        · cases e
  · cases e
def rTupU (K : Frag) : List V → Hp → VK → Prop := fun xs H Q => ∃ p ys, xs = [.ref p] ∧ ((SqL K H p ys ∧ ∀ l, H l = none → Q (.ref l) (upd H l (.tup ys))) ∨ (SqT K H p ys ∧ Q (.ref p) H))
def oTuple : List O → Option O
  | [x] => match seqL x with
    | some ds => some (.fz (.tuple ds))
    | none => match x with
      | .fz (.tuple ds) => some (.fz (.tuple ds))
      | _ => none
  | _ => none
theorem cb_tuple {k : Kc} : CbV k (rTupU k.K) oTuple := by
  intro F H S xs os o Q f off th ws e h
  unfold oTuple at e
  split at e
  · cases ws with
    | cons w ws =>
      cases ws
      split at e
      · rename_i ds es
        have e' := Option.some.inj e
        subst e'
        obtain ⟨a, vs, rfl, g1, g2⟩ := w.seqL f es
        exact ⟨a, vs, rfl, .inl ⟨g1, new_tuple f g2 h⟩⟩
      · split at e
        · have e' := Option.some.inj e
          subst e'
          obtain ⟨a, vs, rfl, g1, g2⟩ := w.seqT f rfl
          exact ⟨a, vs, rfl, .inr ⟨SqT.of g1, h _ F H (Xt.refl f) w⟩⟩
        · cases e
  · cases e
/-! ### small builtins -/
def oAbs : List O → Option O
  | [.fz (.int i)] => some (.fz (.int (if i < 0 then -i else i)))
  | _ => none
theorem cb_abs {k : Kc} : CbV k (fun xs H Q => ∃ i, xs = [.int i] ∧ Q (.int (if i < 0 then -i else i)) H) oAbs := by
  intro F H S xs os o Q f off th ws e h
  unfold oAbs at e
  split at e
  · have e' := Option.some.inj e
    subst e'
    cases ws with
    | cons w ws =>
      cases ws
      have ew := w.int
      subst ew
      exact ⟨_, rfl, h _ F H (Xt.refl f) (.fz (.int _))⟩
  · cases e
def oMax2 : List O → Option O
  | [.fz (.int i), .fz (.int j)] => some (.fz (.int (if j > i then j else i)))
  | _ => none
def oMin2 : List O → Option O
  | [.fz (.int i), .fz (.int j)] => some (.fz (.int (if j < i then j else i)))
  | _ => none
theorem cb_max2 {k : Kc} : CbV k (fun xs H Q => ∃ i j, xs = [.int i, .int j] ∧ Q (.int (if j > i then j else i)) H) oMax2 := by
  intro F H S xs os o Q f off th ws e h
  unfold oMax2 at e
  split at e
  · have e' := Option.some.inj e
    subst e'
    cases ws with
    | cons w ws =>
      cases ws with
      | cons w2 ws =>
        cases ws
        have ew := w.int
        have ew2 := w2.int
        subst ew ew2
        exact ⟨_, _, rfl, h _ F H (Xt.refl f) (.fz (.int _))⟩
  · cases e
theorem cb_min2 {k : Kc} : CbV k (fun xs H Q => ∃ i j, xs = [.int i, .int j] ∧ Q (.int (if j < i then j else i)) H) oMin2 := by
  intro F H S xs os o Q f off th ws e h
  unfold oMin2 at e
  split at e
  · have e' := Option.some.inj e
    subst e'
    cases ws with
    | cons w ws =>
      cases ws with
      | cons w2 ws =>
        cases ws
        have ew := w.int
        have ew2 := w2.int
        subst ew ew2
        exact ⟨_, _, rfl, h _ F H (Xt.refl f) (.fz (.int _))⟩
  · cases e
def oInt : List O → Option O
  | [.fz (.int i)] => some (.fz (.int i))
  | [.fz (.bool b)] => some (.fz (.int (if b then 1 else 0)))
  | [.fz (.str a)] => match PySem.intText? a with
    | some n => if a.length ≤ 640 then some (.fz (.int n)) else none
    | none => none
  | _ => none
def rIntU : List V → Hp → VK → Prop := fun xs H Q => ((∃ i, xs = [.int i] ∧ Q (.int i) H) ∨ ∃ k, xs = [.bl k] ∧ Q (.int (if k then 1 else 0)) H) ∨ ∃ a n, xs = [.str a] ∧ PySem.intText? a = some n ∧ a.length ≤ 640 ∧ Q (.int n) H
theorem call_intU : CallR X (.type "int") rIntU := CallR.or call_int1 call_int_str
theorem cb_int {k : Kc} : CbV k rIntU oInt := by
  intro F H S xs os o Q f off th ws e h
  unfold oInt at e
  split at e
  · have e' := Option.some.inj e
    subst e'
    cases ws with
    | cons w ws =>
      cases ws
      have ew := w.int
      subst ew
      exact .inl (.inl ⟨_, rfl, h _ F H (Xt.refl f) (.fz (.int _))⟩)
  · have e' := Option.some.inj e
    subst e'
    cases ws with
    | cons w ws =>
      cases ws
      have ew := w.bl
      subst ew
      exact .inl (.inr ⟨_, rfl, h _ F H (Xt.refl f) (.fz (.int _))⟩)
  · split at e
    · rename_i n en
      split at e
      · rename_i hz
        have e' := Option.some.inj e
        subst e'
        cases ws with
        | cons w ws =>
          cases ws
          have ew := w.str
          subst ew
          exact .inr ⟨_, n, rfl, en, hz, h _ F H (Xt.refl f) (.fz (.int _))⟩
      · cases e
    · cases e
  · cases e
/-! ### str(x) -/
def rStrU (K : Frag) : List V → Hp → VK → Prop := fun xs H Q => (∃ i, xs = [.int i] ∧ i.natAbs.log2 < 1920 ∧ Q (.str (toString i)) H) ∨ ((∃ a, xs = [.str a] ∧ Q (.str a) H) ∨
  ∃ a d, xs = [.ref a] ∧ Dp K H (.ref a) d ∧ SeqAt.shaped d = true ∧ d.showable = true ∧ d.hasDict = false ∧ d.shown.length ≤ sizeLine ∧ Q (.str d.shown) H)
theorem call_strU (hg : X.A.guards = some []) (hu : X.A.units + 68 < cLine) : CallR X (.type "str") (rStrU X.K) := by
  refine CallR.or call_str_int (CallR.or SkE.call_str_str ?_)
  intro pins s σ H xs us Q I r h
  obtain ⟨a, d, rfl, hd, sh, sw, nd, hz, q⟩ := h
  obtain ⟨u, rfl, ru⟩ := vals1 r
  obtain ⟨as, r1⟩ := Dp.reads I d _ u hd ru
  cases (show u = Value.ref a from ru)
  have hdp := SeqAt.depth_of_shaped sh
  refine str_of_reads r1 sw (fun z => by rw [nd] at z; cases z) hg (by omega) (fun b o e => e) (fun h' u' tk kp => ?_) hz
  exact ⟨.str d.shown, H, I.kept kp, ⟨u', rfl⟩, q⟩
def isSeqD : PD → Bool
  | .list _ => true
  | .tuple _ => true
  | _ => false
def oStr : List O → Option O
  | [.fz (.int i)] => if i.natAbs < 2 ^ 1900 then some (.fz (.str (toString i))) else none
  | [.fz (.str x)] => some (.fz (.str x))
  | [x] => match toPD x with
    | some d => if isSeqD d && SeqAt.shaped d && d.showable && !d.hasDict && decide (d.shown.length ≤ sizeLine) then some (.fz (.str d.shown)) else none
    | none => none
  | _ => none
theorem cb_str {k : Kc} : CbV k (rStrU k.K) oStr := by
  intro F H S xs os o Q f off th ws e h
  unfold oStr at e
  split at e
  · split at e
    · rename_i hz
      have e' := Option.some.inj e
      subst e'
      cases ws with
      | cons w ws =>
        cases ws
        have ew := w.int
        subst ew
        exact .inl ⟨_, rfl, PySem.Spec.log2_small (Nat.lt_of_lt_of_le hz (Nat.pow_le_pow_right (by decide) (by decide))), h _ F H (Xt.refl f) (.fz (.str _))⟩
    · cases e
  · have e' := Option.some.inj e
    subst e'
    cases ws with
    | cons w ws =>
      cases ws
      have ew := w.str
      subst ew
      exact .inr (.inl ⟨_, rfl, h _ F H (Xt.refl f) (.fz (.str _))⟩)
  · split at e
    · rename_i d ed
      split at e
      · rename_i hz
        simp only [Bool.and_eq_true, decide_eq_true_eq, Bool.not_eq_true'] at hz
        obtain ⟨⟨⟨⟨z1, z2⟩, z3⟩, z4⟩, z5⟩ := hz
        have e' := Option.some.inj e
        subst e'
        cases ws with
        | cons w ws =>
          cases ws
          have p := (w.at_ f ed).dp (SeqAt.canLay_of_shaped z2)
          cases p with
          | lst g1 g2 => exact .inr (.inr ⟨_, _, rfl, .lst g1 g2, z2, z3, z4, z5, h _ F H (Xt.refl f) (.fz (.str _))⟩)
          | tup g1 g2 => exact .inr (.inr ⟨_, _, rfl, .tup g1 g2, z2, z3, z4, z5, h _ F H (Xt.refl f) (.fz (.str _))⟩)
          | _ => cases z1
      · cases e
    · cases e
  · cases e
end
end FM
namespace FM
open PySem L2 PyProof.Rows
section
variable {X : Cx}
/-! ### displays -/
def fzs : List O → Option (List PD)
  | [] => some []
  | .fz d :: r => (fzs r).map fun z => d :: z
  | _ :: _ => none
theorem Vws.fzs {k : Kc} {F H : Hp} {S : List Addr} : ∀ {vs : List V} {os : List O} {ds : List PD}, Vws k F H S vs os → FM.fzs os = some ds → Reps k.K F vs ds
  | _, _, _, .nil, e => by
    have e' := Option.some.inj e
    subst e'
    exact .nil
  | _, _, _, .cons (o := o) (os := os) w ws, e => by
    cases o with
    | fz d =>
      obtain ⟨z, e1, e2⟩ := Option.map_eq_some_iff.mp (show (FM.fzs os).map (fun z => d :: z) = some _ from e)
      subst e2
      exact .cons w.rep (Vws.fzs ws e1)
    | _ => cases e
def qTup (r : List O → Option (List O)) : QE := fun ρ => match r ρ with
  | none => none
  | some os => match fzs os with
    | some ds => if ds.length ≤ sizeLine then some (.fz (.tuple ds)) else none
    | none => none
def qLst (r : List O → Option (List O)) : QE := fun ρ => match r ρ with
  | none => none
  | some os => match fzs os with
    | some ds => if ds.length ≤ sizeLine then some (.lst ds) else none
    | none => none
theorem tev_tup {k : Kc} {ta : TA} {qs : List O → Option (List O)} (ha : TAv k ta qs) : TEv k (tTup ta) (qTup qs) := by
  intro F H σ ρ S o Q q e h
  unfold qTup at e
  cases e1 : qs ρ with
  | none => rw [e1] at e; cases e
  | some os =>
    rw [e1] at e
    cases e2 : fzs os with
    | none => simp only [e2] at e; cases e
    | some ds =>
      simp only [e2] at e
      split at e
      · rename_i hz
        have e' := Option.some.inj e
        subst e'
        refine ha F H σ ρ S os _ q e1 fun vs F1 H1 x1 w1 => ?_
        have r := w1.fzs e2
        exact ⟨by rw [r.length]; exact hz, new_tuple x1.fle r fun v F' H' x w => h v F' H' (x1.trans x) w⟩
      · cases e
theorem ten_lst {k : Kc} {ta : TA} {qs : List O → Option (List O)} (ha : TAv k ta qs) : TEn k (tLst ta) (qLst qs) := by
  intro F H σ ρ S o Q q e h
  unfold qLst at e
  cases e1 : qs ρ with
  | none => rw [e1] at e; cases e
  | some os =>
    rw [e1] at e
    cases e2 : fzs os with
    | none => simp only [e2] at e; cases e
    | some ds =>
      simp only [e2] at e
      split at e
      · rename_i hz
        have e' := Option.some.inj e
        subst e'
        refine ha F H σ ρ S os _ q e1 fun vs F1 H1 x1 w1 => ?_
        have r := w1.fzs e2
        exact ⟨by rw [r.length]; exact hz, own_list x1.fle r fun v F' H' T x w fr => h v F' H' T (x1.trans x) w ⟨fr.nd, fun a m => none_back x1.ex (fr.new a m), fr.off, fr.nofz⟩⟩
      · cases e
/-! ### isinstance -/
def tyS : PD → String
  | .none => "NoneType"
  | .bool _ => "bool"
  | .int _ => "int"
  | .str _ => "str"
  | .list _ => "list"
  | .tuple _ => "tuple"
  | .dict _ => "dict"
def isTy (n : String) (d : PD) : Option Bool := kitB (tyS d) n
theorem kit_rep {K : Frag} {pins : List (Addr × Obj)} {σ : L2.St} {H : Hp} {s : Shared} {x : V} {u : Value} {d : PD} (hK : X.K = K) (I : Inv X pins σ H s) (rx : RelV x u) (r : Rep K H x d) :
    ∃ P : Heap → Prop, PySem.W.KitX X.K u (.type (tyS d)) P ∧ P s.heap ∧ u ≠ .builtin "__main__.__loader__#opaque" := by
  subst hK
  cases r with
  | non => exact kit_of I rx (.base .non)
  | bl b => exact kit_of I rx (.base (.bl b))
  | int i => exact kit_of I rx (.base (.int i))
  | str y => exact kit_of I rx (.base (.str y))
  | lst h _ =>
    rcases h with (h | ⟨o, h⟩) | ⟨o, its, n, hk, hc, _⟩
    · exact kit_of I rx (.base (.lst h))
    · exact kit_of I rx (.base (.frz h))
    · exact kit_of I rx (.kList hk hc)
  | tup h _ => exact kit_of I rx (.base (.tup h))
  | dic h _ e =>
    subst e
    rcases h with h | ⟨o, h⟩
    · exact kit_of I rx (.base (.dK h))
    · exact kit_of I rx (.fDict h)
  | @dit a kvs ds _ h _ e =>
    subst e
    rcases h with h | ⟨ob, h⟩
    · exact kit_of I rx (.base (.dT h))
    · cases (show u = Value.ref a from rx)
      obtain ⟨_, _, _, xs, _, o, es, ep, h1, h2, _⟩ := (show ObjOk X.prog X.w H s.heap a (.frz ob (.dT kvs)) from I.hok a _ h)
      exact ⟨_, PySem.W.kitx_dict, ⟨o, h1, h2.1⟩, fun z => nomatch z⟩
def rIsi1 (K : Frag) : List V → Hp → VK → Prop := fun xs H Q => ∃ x n d b, xs = [x, .ty n] ∧ Rep K H x d ∧ kitB (tyS d) n = some b ∧ Q (.bl b) H
theorem call_isi1 : CallR X (.builtin "isinstance") (rIsi1 X.K) := by
  intro pins s σ H xs us Q I r h
  obtain ⟨x, n, d, b, rfl, rx, e, q⟩ := h
  obtain ⟨u1, u2, rfl, r1, r2⟩ := vals2 r
  cases (show u2 = Value.type n from r2)
  obtain ⟨P, Z, p, hx⟩ := kit_rep rfl I r1 rx
  exact PySem.W.kia_one Z I.kIn p (kit_ty e) hx fun tk => ⟨.bl b, H, I.tok tk, rfl, q⟩
def rIsi2 (K : Frag) : List V → Hp → VK → Prop := fun xs H Q => ∃ x tp n m d b c, xs = [x, .ref tp] ∧ H tp = some (.tup [.ty n, .ty m]) ∧ Rep K H x d ∧ kitB (tyS d) n = some b ∧ kitB (tyS d) m = some c ∧ Q (.bl (b || c)) H
theorem call_isi2 : CallR X (.builtin "isinstance") (rIsi2 X.K) := by
  intro pins s σ H xs us Q I r h
  obtain ⟨x, tp, n, m, d, b, c, rfl, hT, rx, e, e2, q⟩ := h
  obtain ⟨u1, u2, rfl, r1, r2⟩ := vals2 r
  cases (show u2 = Value.ref tp from r2)
  obtain ⟨P, Z, p, hx⟩ := kit_rep rfl I r1 rx
  obtain ⟨_, its, rv, o, h1, h2, n', h3⟩ := (show ObjOk X.prog X.w H s.heap tp (.tup [.ty n, .ty m]) from I.hok tp _ hT)
  have e3 : its = [Value.type n, Value.type m] := by
    cases rv with
    | cons a t =>
      cases t with
      | cons b t =>
        cases t
        cases a
        cases b
        rfl
  subst e3
  obtain ⟨oc, od, dt, sl⟩ := o
  simp only at h2 h3
  subst h2 h3
  refine PySem.W.kia_tup Z I.kIn p h1 (kitAny_cons (r := b || c) (kit_ty e) (fun hb => ?_) fun hb => by rw [hb]; rfl) hx fun tk => ⟨.bl _, H, I.tok tk, rfl, q⟩
  rw [hb]
  refine kitAny_cons (kit_ty e2) (fun hc => ?_) fun hc => by rw [hc]; rfl
  rw [hc]
  exact kitAny_nil
def qIsi (n : String) (a : QE) : QE := fun ρ => match a ρ with
  | none => none
  | some x => match toPD x with
    | none => none
    | some d => (isTy n d).map fun b => .fz (.bool b)
def qIsi2 (n m : String) (a : QE) : QE := fun ρ => match a ρ with
  | none => none
  | some x => match toPD x with
    | none => none
    | some d => match isTy n d, isTy m d with
      | some b, some c => some (.fz (.bool (b || c)))
      | _, _ => none
theorem tev_isi {k : Kc} {te : TE} {qa : QE} {n : String} (ha : TEv k te qa) : TEv k (tCB (rIsi1 k.K) (tCons te (tCons (tC (.ty n)) tNil))) (qIsi n qa) := by
  intro F H σ ρ S o Q q e h
  unfold qIsi at e
  cases e1 : qa ρ with
  | none => rw [e1] at e; cases e
  | some x =>
    rw [e1] at e
    cases e2 : toPD x with
    | none => simp only [e2] at e; cases e
    | some d =>
      simp only [e2] at e
      obtain ⟨b, e3, e4⟩ := Option.map_eq_some_iff.mp e
      subst e4
      refine ha F H σ ρ S x _ q e1 fun v F1 H1 x1 w1 => ?_
      exact ⟨v, n, d, b, rfl, w1.at_ x1.fle e2, e3, h _ F1 H1 x1 (.fz (.bl _))⟩
theorem tev_isi2 {k : Kc} {te : TE} {qa : QE} {n m : String} (ha : TEv k te qa) : TEv k (tCB (rIsi2 k.K) (tCons te (tCons (tTup (tCons (tC (.ty n)) (tCons (tC (.ty m)) tNil))) tNil))) (qIsi2 n m qa) := by
  intro F H σ ρ S o Q q e h
  unfold qIsi2 at e
  cases e1 : qa ρ with
  | none => rw [e1] at e; cases e
  | some x =>
    rw [e1] at e
    cases e2 : toPD x with
    | none => simp only [e2] at e; cases e
    | some d =>
      simp only [e2] at e
      split at e
      · rename_i b c e3 e4
        have e' := Option.some.inj e
        subst e'
        refine ha F H σ ρ S x _ q e1 fun v F1 H1 x1 w1 => ?_
        refine ⟨by show 2 ≤ sizeLine; decide, fun p hp => ?_⟩
        have x2 := Xt.new (o := .tup [.ty n, .ty m]) x1.fle hp
        exact ⟨v, p, n, m, d, b, c, rfl, upd_same, (w1.xt x2).at_ x2.fle e2, e3, e4, h _ _ _ (x1.trans x2) (.fz (.bl _))⟩
      · cases e
/-! ### what is walked -/
/-- the items, each new one frozen: P says where it holds -/
structure WalkD (k : Kc) (P : Hp → Hp → Prop) (J : It) (ds : List PD) : Prop where
  goes : ∀ i F H, i < ds.length → P F H → FLe F H → J.go i H
  stops : ∀ F H, P F H → FLe F H → J.stop ds.length H
  yields : ∀ i F H x H' (hi : i < ds.length), P F H → FLe F H → J.yld i H x H' → ∃ F', Xt F H F' H' ∧ Rep k.K F' x ds[i]
abbrev QI := List O → Option (List PD)
/-- as long as nothing is changed -/
def TIv (k : Kc) (wi : TI) (q : QI) : Prop := ∀ (F H : Hp) (σ : L2.St) (ρ : List O) (S : List Addr) (ds : List PD) (R : It → Hp → Prop), Qs k F H σ ρ S → q ρ = some ds →
  (∀ J F' H', Xt F H F' H' → WalkD k (fun F2 H2 => Xt F' H' F2 H2) J ds → R J H') → wi σ H R
/-- as long as what is frozen stands -/
def TIf (k : Kc) (wi : TI) (q : QI) : Prop := ∀ (F H : Hp) (σ : L2.St) (ρ : List O) (S : List Addr) (ds : List PD) (R : It → Hp → Prop), Qs k F H σ ρ S → q ρ = some ds →
  (∀ J F' H', Xt F H F' H' → WalkD k (fun F2 _ => Same F' F2) J ds → R J H') → wi σ H R
theorem WalkD.mono {k : Kc} {P P' : Hp → Hp → Prop} {J : It} {ds : List PD} (w : WalkD k P J ds) (h : ∀ F H, P' F H → P F H) : WalkD k P' J ds :=
  ⟨fun i F H hi p f => w.goes i F H hi (h F H p) f, fun F H p f => w.stops F H (h F H p) f, fun i F H x H' hi p f y => w.yields i F H x H' hi (h F H p) f y⟩
theorem TIf.v {k : Kc} {wi : TI} {q : QI} (h : TIf k wi q) : TIv k wi q := fun F H σ ρ S ds R qs e g => h F H σ ρ S ds R qs e fun J F' H' x w => g J F' H' x (w.mono fun _ _ z => z.sub)
/-- over what P holds: SqL, SqT along P -/
theorem walkD_list {k : Kc} {P : Hp → Hp → Prop} {a : Addr} {vs : List V} {ds : List PD} (hs : ∀ F H, P F H → FLe F H → SqL k.K H a vs ∧ Reps k.K F vs ds) (hl : vs.length = ds.length) : WalkD k P (Itl k.K a) ds :=
  ⟨fun i F H hi p f => walk_list.goes i H (by omega) (hs F H p f).1, fun F H p f => by rw [← hl]; exact walk_list.stops H (hs F H p f).1, fun i F H x H' hi p f y => by
    obtain ⟨e1, e2⟩ := walk_list.yields i H x H' (by omega) (hs F H p f).1 y
    subst e1
    obtain ⟨v, e3, r⟩ := (hs F _ p f).2.get (i := i) (d := ds[i]) (by simp [hi])
    rw [e2] at e3
    have e3 := Option.some.inj e3
    subst e3
    exact ⟨F, Xt.refl f, r⟩⟩
theorem walkD_tup {k : Kc} {P : Hp → Hp → Prop} {a : Addr} {vs : List V} {ds : List PD} (hs : ∀ F H, P F H → FLe F H → SqT k.K H a vs ∧ Reps k.K F vs ds) (hl : vs.length = ds.length) : WalkD k P (Itt k.K a) ds :=
  ⟨fun i F H hi p f => walk_tup.goes i H (by omega) (hs F H p f).1, fun F H p f => by rw [← hl]; exact walk_tup.stops H (hs F H p f).1, fun i F H x H' hi p f y => by
    obtain ⟨e1, e2⟩ := walk_tup.yields i H x H' (by omega) (hs F H p f).1 y
    subst e1
    obtain ⟨v, e3, r⟩ := (hs F _ p f).2.get (i := i) (d := ds[i]) (by simp [hi])
    rw [e2] at e3
    have e3 := Option.some.inj e3
    subst e3
    exact ⟨F, Xt.refl f, r⟩⟩
/-- a frozen list's standing -/
def qItL (a : QE) : QI := fun ρ => match a ρ with
  | none => none
  | some x => seqL x
def qItT (a : QE) : QI := fun ρ => match a ρ with
  | none => none
  | some x => seqR x
theorem tiv_list {k : Kc} {te : TE} {qa : QE} (ha : TEv k te qa) : TIv k (iList k.K te) (qItL qa) := by
  intro F H σ ρ S ds R q e g
  unfold qItL at e
  cases e1 : qa ρ with
  | none => rw [e1] at e; cases e
  | some x =>
    rw [e1] at e
    refine ha F H σ ρ S x _ q e1 fun v F1 H1 x1 w1 => ?_
    obtain ⟨a, vs, rfl, g1, g2⟩ := w1.seqL x1.fle e
    exact ⟨a, rfl, ⟨vs, g1⟩, g _ F1 H1 x1 (walkD_list (fun F2 H2 p f => ⟨sqL_sub p.ex g1, g2.sub p.sub⟩) g2.length)⟩
theorem tiv_tup {k : Kc} {te : TE} {qa : QE} (ha : TEv k te qa) : TIv k (iTup k.K te) (qItT qa) := by
  intro F H σ ρ S ds R q e g
  unfold qItT at e
  cases e1 : qa ρ with
  | none => rw [e1] at e; cases e
  | some x =>
    rw [e1] at e
    refine ha F H σ ρ S x _ q e1 fun v F1 H1 x1 w1 => ?_
    obtain ⟨a, vs, rfl, g1, g2⟩ := w1.seqR x1.fle e
    exact ⟨a, rfl, ⟨vs, g1⟩, g _ F1 H1 x1 (walkD_tup (fun F2 H2 p f => ⟨sqT_sub p.ex g1, g2.sub p.sub⟩) g2.length)⟩
/-- frozen ones alone -/
def fzL : O → Option (List PD)
  | .fz (.list ds) => some ds
  | _ => none
theorem Vw.fzL {k : Kc} {F H : Hp} {S : List Addr} {v : V} {o : O} {ds : List PD} (h : Vw k F H S v o) (e : FM.fzL o = some ds) : ∃ a vs, v = .ref a ∧ SqL k.K F a vs ∧ Reps k.K F vs ds := by
  unfold FM.fzL at e
  split at e
  · have e' := Option.some.inj e
    subst e'
    cases h.rep with
    | lst h1 h2 => exact ⟨_, _, rfl, h1, h2⟩
    | dic _ _ e => cases e
    | dit _ _ e => cases e
  · cases e
theorem Vw.fzR {k : Kc} {F H : Hp} {S : List Addr} {v : V} {o : O} {ds : List PD} (h : Vw k F H S v o) (e : FM.seqR o = some ds) : ∃ a vs, v = .ref a ∧ (∀ G, Same F G → SqT k.K G a vs) ∧ Reps k.K F vs ds := by
  obtain ⟨T, _, q⟩ := h
  cases q with
  | fz r =>
    cases r with
    | tup h1 h2 =>
      have e' := Option.some.inj e
      subst e'
      exact ⟨_, _, rfl, fun G s => SqT.of (s _ _ h1), h2⟩
    | dic h1 h2 h3 => subst h3; cases e
    | dit h1 h2 h3 => subst h3; cases e
    | _ => cases e
  | ktp h1 h2 =>
    have e' := Option.some.inj e
    subst e'
    exact ⟨_, _, rfl, fun G _ => h1 G, h2⟩
  | _ => cases e
def qIfL (a : QE) : QI := fun ρ => match a ρ with
  | none => none
  | some x => fzL x
theorem tif_list {k : Kc} {te : TE} {qa : QE} (ha : TEv k te qa) : TIf k (iList k.K te) (qIfL qa) := by
  intro F H σ ρ S ds R q e g
  unfold qIfL at e
  cases e1 : qa ρ with
  | none => rw [e1] at e; cases e
  | some x =>
    rw [e1] at e
    refine ha F H σ ρ S x _ q e1 fun v F1 H1 x1 w1 => ?_
    obtain ⟨a, vs, rfl, g1, g2⟩ := w1.fzL e
    exact ⟨a, rfl, ⟨vs, sqL_le x1.fle g1⟩, g _ F1 H1 x1 (walkD_list (fun F2 H2 p f => ⟨sqL_le f (sqL_sub p g1), g2.sub p⟩) g2.length)⟩
theorem tif_tup {k : Kc} {te : TE} {qa : QE} (ha : TEv k te qa) : TIf k (iTup k.K te) (qItT qa) := by
  intro F H σ ρ S ds R q e g
  unfold qItT at e
  cases e1 : qa ρ with
  | none => rw [e1] at e; cases e
  | some x =>
    rw [e1] at e
    refine ha F H σ ρ S x _ q e1 fun v F1 H1 x1 w1 => ?_
    obtain ⟨a, vs, rfl, g1, g2⟩ := w1.fzR e
    exact ⟨a, rfl, ⟨vs, sqT_le x1.fle (g1 F1 (Same.refl _))⟩, g _ F1 H1 x1 (walkD_tup (fun F2 H2 p f => ⟨sqT_le f (g1 F2 p), g2.sub p⟩) g2.length)⟩
/-- ranges -/
def rngD (lo : Int) (n : Nat) : List PD := (List.range n).map fun i => PyData.int (lo + (i : Nat))
theorem walkD_range {k : Kc} {P : Hp → Hp → Prop} {lo : Int} {n : Nat} : WalkD k P (Itr lo n) (rngD lo n) := by
  have hl : (rngD lo n).length = n := by unfold rngD; rw [List.length_map, List.length_range]
  refine ⟨fun i F H hi _ _ => ?_, fun F H _ _ => ?_, fun i F H x H' hi p f y => ?_⟩
  · rw [hl] at hi; exact hi
  · rw [hl]; exact Nat.le_refl n
  · obtain ⟨e1, e2⟩ := y
    subst e1 e2
    refine ⟨F, Xt.refl f, ?_⟩
    have : (rngD lo n)[i] = PyData.int (lo + (i : Nat)) := by simp [rngD]
    rw [this]
    exact .int _
noncomputable def big62 (i : Int) : Bool := @decide (-(2 ^ 62) ≤ i ∧ i < 2 ^ 62) (Classical.propDecidable _)
theorem big62_ok {i : Int} (h : big62 i = true) : -(2 ^ 62) ≤ i ∧ i < 2 ^ 62 := @of_decide_eq_true _ (Classical.propDecidable _) h
theorem big62_of {i : Int} (h1 : -(2 ^ 62) ≤ i) (h2 : i < 2 ^ 62) : big62 i = true := @decide_eq_true _ (Classical.propDecidable _) ⟨h1, h2⟩
noncomputable def qRng1 (r : List O → Option (List O)) : QI := fun ρ => match r ρ with
  | some [.fz (.int j)] => if big62 j then some (rngD 0 j.toNat) else none
  | _ => none
noncomputable def qRng2 (r : List O → Option (List O)) : QI := fun ρ => match r ρ with
  | some [.fz (.int i), .fz (.int j)] => if big62 i && big62 j then some (rngD i (j - i).toNat) else none
  | _ => none
theorem tif_rng1 {k : Kc} {ta : TA} {qs : List O → Option (List O)} (ha : TAv k ta qs) : TIf k (iRng1 ta) (qRng1 qs) := by
  intro F H σ ρ S ds R q e g
  unfold qRng1 at e
  split at e
  · rename_i j e1
    split at e
    · rename_i hz
      have e' := Option.some.inj e
      subst e'
      refine ha F H σ ρ S _ _ q e1 fun vs F1 H1 x1 w1 => ?_
      cases w1 with
      | cons w ws =>
        cases ws
        have ew := w.int
        subst ew
        have b := big62_ok hz
        exact ⟨j, rfl, b.1, b.2, g _ F1 H1 x1 walkD_range⟩
    · cases e
  · cases e
theorem tif_rng2 {k : Kc} {ta : TA} {qs : List O → Option (List O)} (ha : TAv k ta qs) : TIf k (iRng2 ta) (qRng2 qs) := by
  intro F H σ ρ S ds R q e g
  unfold qRng2 at e
  split at e
  · rename_i i j e1
    split at e
    · rename_i hz
      have hz := Bool.and_eq_true_iff.mp hz
      have e' := Option.some.inj e
      subst e'
      refine ha F H σ ρ S _ _ q e1 fun vs F1 H1 x1 w1 => ?_
      cases w1 with
      | cons w ws =>
        cases ws with
        | cons w2 ws =>
          cases ws
          have ew := w.int
          have ew2 := w2.int
          subst ew ew2
          have b := big62_ok hz.1
          have b2 := big62_ok hz.2
          exact ⟨i, j, rfl, ⟨b.1, b.2, b2.1, b2.2⟩, g _ F1 H1 x1 walkD_range⟩
    · cases e
  · cases e
/-! ### list(range(..)) -/
noncomputable def qLrg1 (a : QE) : QE := fun ρ => match a ρ with
  | some (.fz (.int n)) => if big62 n && decide (n.toNat ≤ 2 ^ 24) then some (.lst (rngD 0 n.toNat)) else none
  | _ => none
noncomputable def qLrg2 (a b : QE) : QE := fun ρ => match a ρ, b ρ with
  | some (.fz (.int m)), some (.fz (.int n)) => if big62 m && big62 n && decide ((n - m).toNat ≤ 2 ^ 24) then some (.lst (rngD m (n - m).toNat)) else none
  | _, _ => none
theorem reps_rg {K : Frag} {F : Hp} (a b : Int) : Reps K F (rgV a b) (rngD a (b - a).toNat) := by
  unfold rgV rngD
  generalize List.range (b - a).toNat = l
  induction l with
  | nil => exact .nil
  | cons x r ih => exact .cons (.int _) ih
theorem ten_lrg1 {k : Kc} {te : TE} {qa : QE} (ha : TEv k te qa) : TEn k (tLstRg (tRg1 te)) (qLrg1 qa) := by
  intro F H σ ρ S o Q q e h
  unfold qLrg1 at e
  split at e
  · rename_i n e1
    split at e
    · rename_i hz
      simp only [Bool.and_eq_true, decide_eq_true_eq] at hz
      have e' := Option.some.inj e
      subst e'
      refine ha F H σ ρ S _ _ q e1 fun v F1 H1 x1 w1 => ?_
      have b := big62_ok hz.1
      refine ⟨n, w1.int, ⟨by decide, by decide, b.1, b.2, by rw [Int.sub_zero]; exact hz.2⟩, ?_⟩
      have r := reps_rg (K := k.K) (F := F1) 0 n
      rw [Int.sub_zero] at r
      exact own_list x1.fle r fun v F' H' T x w fr => h v F' H' T (x1.trans x) w ⟨fr.nd, fun a m => none_back x1.ex (fr.new a m), fr.off, fr.nofz⟩
    · cases e
  · cases e
theorem ten_lrg2 {k : Kc} {ta tb : TE} {qa qb : QE} (ha : TEv k ta qa) (hb : TEv k tb qb) : TEn k (tLstRg (tRg2 ta tb)) (qLrg2 qa qb) := by
  intro F H σ ρ S o Q q e h
  unfold qLrg2 at e
  split at e
  · rename_i m n e1 e2
    split at e
    · rename_i hz
      simp only [Bool.and_eq_true, decide_eq_true_eq] at hz
      have e' := Option.some.inj e
      subst e'
      refine ha F H σ ρ S _ _ q e1 fun v F1 H1 x1 w1 => ?_
      refine hb F1 H1 σ ρ S _ _ (q.xt x1) e2 fun v2 F2 H2 x2 w2 => ?_
      have b := big62_ok hz.1.1
      have b2 := big62_ok hz.1.2
      refine ⟨m, n, w1.int, w2.int, ⟨b.1, b.2, b2.1, b2.2, hz.2⟩, ?_⟩
      exact own_list x2.fle (reps_rg (K := k.K) (F := F2) m n) fun v F' H' T x w fr => h v F' H' T ((x1.trans x2).trans x) w ⟨fr.nd, fun a m => none_back (x1.trans x2).ex (fr.new a m), fr.off, fr.nofz⟩
    · cases e
  · cases e
end
end FM
namespace FM
open PySem L2 PyProof.Rows
/-! ### slots that are stored -/
theorem Envs.setD {k : Kc} {F H : Hp} {v : Option V} : ∀ {σ : L2.St} {ρ : List O} {S : List Addr} (j : Nat), Envs k F H σ ρ S → ∃ S', S'.Sublist S ∧ Envs k F H (σ.set j v) (ρ.set j .dead) S'
  | _, _, _, _, .nil => ⟨[], .slnil, .nil⟩
  | _, _, _, 0, .dead r => ⟨_, .refl _, .dead r⟩
  | _, _, _, 0, .cons h r => ⟨_, List.sublist_append_right _ _, .dead r⟩
  | _, _, _, j + 1, .dead r => by
    obtain ⟨S', m, q⟩ := Envs.setD j r
    exact ⟨S', m, .dead q⟩
  | _, _, _, j + 1, .cons (S := S1) h r => by
    obtain ⟨S', m, q⟩ := Envs.setD j r
    exact ⟨S1 ++ S', List.Sublist.append (.refl _) m, .cons h q⟩
theorem Envs.setO {k : Kc} {F H : Hp} {v : V} {o : O} {T : List Addr} (w : Own k F H v o T) : ∀ {σ : L2.St} {ρ : List O} {S : List Addr} (j : Nat), Envs k F H σ ρ S → (∃ S', S'.Sublist S ∧ ∃ U, U.Perm (T ++ S') ∧ Envs k F H (σ.set j (some v)) (ρ.set j o) U) ∨ ∃ S', S'.Sublist S ∧ Envs k F H (σ.set j (some v)) (ρ.set j o) S'
  | _, _, _, _, .nil => .inr ⟨[], .slnil, .nil⟩
  | _, _, S, 0, .dead r => .inl ⟨S, .refl _, T ++ S, .refl _, .cons w r⟩
  | _, _, _, 0, .cons (T := S2) h r => .inl ⟨S2, List.sublist_append_right _ _, T ++ S2, .refl _, .cons w r⟩
  | _, _, _, j + 1, .dead r => by
    rcases Envs.setO w j r with ⟨S', m, U, p, q⟩ | ⟨S2, m, q⟩
    · exact .inl ⟨S', m, U, p, .dead q⟩
    · exact .inr ⟨S2, m, .dead q⟩
  | _, _, _, j + 1, .cons (S := S1) h r => by
    rcases Envs.setO w j r with ⟨S', m, U, p, q⟩ | ⟨S2, m, q⟩
    · refine .inl ⟨S1 ++ S', List.Sublist.append (.refl _) m, S1 ++ U, ?_, .cons h q⟩
      exact (List.Perm.append_left S1 p).trans (by
        rw [← List.append_assoc, ← List.append_assoc]
        exact List.Perm.append_right _ List.perm_append_comm)
    · exact .inr ⟨S1 ++ S2, List.Sublist.append (.refl _) m, .cons h q⟩
theorem Envs.setR {k : Kc} {F H : Hp} {v : V} {d : PD} (w : Rep k.K F v d) : ∀ {σ : L2.St} {ρ : List O} {S : List Addr} (j : Nat), Envs k F H σ ρ S → ∃ S', S'.Sublist S ∧ Envs k F H (σ.set j (some v)) (ρ.set j (.fz d)) S'
  | _, _, _, _, .nil => ⟨[], .slnil, .nil⟩
  | _, _, S, 0, .dead r => ⟨[] ++ S, .refl _, .cons (.fz w) r⟩
  | _, _, _, 0, .cons (T := S2) h r => ⟨[] ++ S2, List.sublist_append_right _ _, .cons (.fz w) r⟩
  | _, _, _, j + 1, .dead r => by
    obtain ⟨S', m, q⟩ := Envs.setR w j r
    exact ⟨S', m, .dead q⟩
  | _, _, _, j + 1, .cons (S := S1) h r => by
    obtain ⟨S', m, q⟩ := Envs.setR w j r
    exact ⟨S1 ++ S', List.Sublist.append (.refl _) m, .cons h q⟩
def wipeO (ρ : List O) : List Nat → List O
  | [] => ρ
  | v :: vs => (wipeO ρ vs).set v .dead
theorem Envs.wipe {k : Kc} {F H : Hp} {σ : L2.St} {ρ : List O} {S : List Addr} (h : Envs k F H σ ρ S) : ∀ vs : List Nat, ∃ S', (∀ a ∈ S', a ∈ S) ∧ Envs k F H (L2.wipe σ vs) (wipeO ρ vs) S'
  | [] => ⟨S, fun _ m => m, h⟩
  | v :: vs => by
    obtain ⟨S1, m1, h1⟩ := Envs.wipe h vs
    obtain ⟨S2, m2, h2⟩ := Envs.setD (v := none) v h1
    exact ⟨S2, fun a z => m1 a (m2.subset z), h2⟩
theorem wipe_set {σ : L2.St} {j : Nat} {x : Option V} : ∀ {vs : List Nat}, j ∈ vs → L2.wipe (σ.set j x) vs = L2.wipe σ vs
  | [], m => by cases m
  | v :: vs, m => by
    unfold L2.wipe
    by_cases e : j ∈ vs
    · rw [wipe_set e]
    · have ej : j = v := (List.mem_cons.mp m).resolve_right e
      subst ej
      have comm : ∀ vs : List Nat, j ∉ vs → L2.wipe (σ.set j x) vs = (L2.wipe σ vs).set j x := by
        intro vs
        induction vs with
        | nil => intro _; rfl
        | cons w ws ih =>
          intro hn
          have h1 : j ≠ w := fun z => hn (by rw [z]; exact List.mem_cons_self)
          have h2 : j ∉ ws := fun z => hn (List.mem_cons_of_mem _ z)
          unfold L2.wipe
          rw [ih h2, List.set_comm _ _ h1]
      rw [comm vs e, List.set_set]
theorem wipe_wipe {σ : L2.St} : ∀ (vs ws : List Nat), (∀ j ∈ vs, j ∈ ws) → L2.wipe (L2.wipe σ vs) ws = L2.wipe σ ws
  | [], _, _ => rfl
  | v :: vs, ws, m => by
    show L2.wipe ((L2.wipe σ vs).set v none) ws = _
    rw [wipe_set (m v List.mem_cons_self)]
    exact wipe_wipe vs ws fun j z => m j (List.mem_cons_of_mem _ z)

/-- two slot lists that agree but at J -/
structure Agr (J : List Nat) (σ σ' : L2.St) : Prop where
  len : σ'.length = σ.length
  at_ : ∀ i, i ∉ J → σ'[i]? = σ[i]?
theorem Agr.refl {J : List Nat} {σ : L2.St} : Agr J σ σ := ⟨rfl, fun _ _ => rfl⟩
theorem Agr.trans {J J' : List Nat} {σ σ1 σ2 : L2.St} (a : Agr J σ σ1) (b : Agr J' σ1 σ2) : Agr (J ++ J') σ σ2 :=
  ⟨b.len.trans a.len, fun i n => (b.at_ i fun m => n (List.mem_append_right _ m)).trans (a.at_ i fun m => n (List.mem_append_left _ m))⟩
theorem Agr.set {σ : L2.St} {j : Nat} {x : Option V} : Agr [j] σ (σ.set j x) := ⟨List.length_set, fun i n => by
  rw [List.getElem?_set_ne]
  intro e
  exact n (by rw [e]; exact List.mem_cons_self)⟩
theorem wipe_in {σ : L2.St} {i : Nat} : ∀ {vs : List Nat}, i ∈ vs → i < σ.length → (L2.wipe σ vs)[i]? = some none
  | [], m, _ => by cases m
  | v :: vs, m, h => by
    unfold L2.wipe
    by_cases e : v = i
    · subst e
      rw [List.getElem?_set_self (by rw [wipe_length]; exact h)]
    · rw [List.getElem?_set_ne e]
      exact wipe_in ((List.mem_cons.mp m).resolve_left fun z => e z.symm) h
theorem Agr.wipe {J vs : List Nat} {σ σ' : L2.St} (a : Agr J σ σ') (h : ∀ j ∈ J, j ∈ vs) : L2.wipe σ' vs = L2.wipe σ vs := by
  apply List.ext_getElem?
  intro i
  by_cases m : i ∈ vs
  · by_cases l : i < σ.length
    · rw [wipe_in m l, wipe_in m (by rw [a.len]; exact l)]
    · rw [List.getElem?_eq_none (by rw [wipe_length, a.len]; omega), List.getElem?_eq_none (by rw [wipe_length]; omega)]
  · rw [wipe_out m, wipe_out m]
    exact a.at_ i fun z => m (h i z)
/-! ### targets, quiet -/
abbrev QG := PD → List O → Option (List O)
def TGq (k : Kc) (g : TG) (f : QG) (J : List Nat) : Prop := ∀ (F H : Hp) (σ : L2.St) (ρ ρ' : List O) (S : List Addr) (v : V) (d : PD) (Q : L2.St → Hp → Prop), Qs k F H σ ρ S → Rep k.K F v d → f d ρ = some ρ' →
  (∀ σ' S', Qs k F H σ' ρ' S' → S'.Sublist S → Agr J σ σ' → Q σ' H) → g v σ H Q
def TGsq (k : Kc) (g : TGs) (f : List PD → List O → Option (List O)) (J : List Nat) : Prop := ∀ (F H : Hp) (σ : L2.St) (ρ ρ' : List O) (S : List Addr) (vs : List V) (ds : List PD) (Q : L2.St → Hp → Prop), Qs k F H σ ρ S → Reps k.K F vs ds → f ds ρ = some ρ' →
  (∀ σ' S', Qs k F H σ' ρ' S' → S'.Sublist S → Agr J σ σ' → Q σ' H) → g vs σ H Q
def fName (j : Nat) : QG := fun d ρ => some (ρ.set j (.fz d))
theorem tgq_name {k : Kc} {j : Nat} : TGq k (gName j) (fName j) [j] := by
  intro F H σ ρ ρ' S v d Q q r e h
  have e' := Option.some.inj e
  subst e'
  obtain ⟨S', m, w⟩ := q.env.setR r j
  exact h _ S' ⟨q.fle, w, fun a z => q.off a (m.subset z)⟩ m Agr.set
def fNil : List PD → List O → Option (List O) := fun ds ρ => match ds with
  | [] => some ρ
  | _ :: _ => none
def fCons (f : QG) (r : List PD → List O → Option (List O)) : List PD → List O → Option (List O) := fun ds ρ => match ds with
  | [] => none
  | d :: ds => match f d ρ with
    | none => none
    | some ρ' => r ds ρ'
def fTup (n : Nat) (f : List PD → List O → Option (List O)) : QG := fun d ρ => match d with
  | .tuple ds => if ds.length = n then f ds ρ else none
  | _ => none
theorem tgsq_nil {k : Kc} : TGsq k gNil fNil [] := by
  intro F H σ ρ ρ' S vs ds Q q r e h
  unfold fNil at e
  cases r with
  | nil =>
    have e' := Option.some.inj e
    subst e'
    exact ⟨rfl, h σ S q (.refl _) Agr.refl⟩
  | cons _ _ => cases e
theorem tgsq_cons {k : Kc} {g : TG} {gs : TGs} {f : QG} {fs : List PD → List O → Option (List O)} {J Js : List Nat} (h1 : TGq k g f J) (h2 : TGsq k gs fs Js) : TGsq k (gCons g gs) (fCons f fs) (J ++ Js) := by
  intro F H σ ρ ρ' S vs ds Q q r e h
  unfold fCons at e
  cases r with
  | nil => cases e
  | @cons v d vs ds rv rs =>
    simp only at e
    cases e1 : f d ρ with
    | none => rw [e1] at e; cases e
    | some ρ1 =>
      rw [e1] at e
      refine ⟨v, vs, rfl, h1 F H σ ρ ρ1 S v d _ q rv e1 fun σ1 S1 q1 m1 w1 => ?_⟩
      exact h2 F H σ1 ρ1 ρ' S1 vs ds Q q1 rs e fun σ2 S2 q2 m2 w2 => h σ2 S2 q2 (m2.trans m1) (w1.trans w2)
theorem tgq_tup {k : Kc} {gs : TGs} {fs : List PD → List O → Option (List O)} {J : List Nat} {n : Nat} (h1 : TGsq k gs fs J) : TGq k (gTup k.K n gs) (fTup n fs) J := by
  intro F H σ ρ ρ' S v d Q q r e h
  unfold fTup at e
  split at e
  · split at e
    · rename_i ds hn
      cases r with
      | tup a1 a2 => exact ⟨_, _, rfl, SqT.of (tup_le q.fle a1), by rw [a2.length]; exact hn, h1 F H σ ρ ρ' S _ ds Q q a2 e h⟩
      | dic _ _ e => cases e
      | dit _ _ e => cases e
    · cases e
  · cases e

/-! ### comprehensions of quiet items -/
def lcGo (f : QG) (c : List O → Option Bool) (e : QE) (ρ : List O) : List PD → Option (List PD)
  | [] => some []
  | x :: xs => match f x ρ with
    | none => none
    | some ρ1 => match c ρ1 with
      | none => none
      | some false => lcGo f c e ρ xs
      | some true => match e ρ1 with
        | some (.fz d) => (lcGo f c e ρ xs).map fun r => d :: r
        | _ => none
def qYes : List O → Option Bool := fun _ => some true
theorem ttv_yes {k : Kc} : TTv k tYes qYes := by
  intro F H σ ρ S b Q q e h
  have e' := Option.some.inj e
  subst e'
  exact h F H (Xt.refl q.fle)
def qLc (qi : QI) (f : QG) (c : List O → Option Bool) (e : QE) (vs : List Nat) : QE := fun ρ => match qi ρ with
  | none => none
  | some xs => if xs.length ≤ sizeLine then (lcGo f c e (wipeO ρ vs) xs).map .lst else none
theorem ten_lc {k : Kc} {wi : TI} {g : TG} {tt : TT} {te : TE} {vs : List Nat} {qi : QI} {f : QG} {c : List O → Option Bool} {qe : QE} {J : List Nat} (hi : TIv k wi qi) (hg : TGq k g f J) (hJ : ∀ j ∈ J, j ∈ vs) (ht : TTv k tt c) (he : TEv k te qe) :
    TEn k (tLc wi g tt te vs) (qLc qi f c qe vs) := by
  intro F H σ ρ S o Q q e h
  unfold qLc at e
  cases e1 : qi ρ with
  | none => rw [e1] at e; cases e
  | some xs =>
    rw [e1] at e
    simp only at e
    split at e
    · rename_i hz
      obtain ⟨ys, e2, e3⟩ := Option.map_eq_some_iff.mp e
      subst e3
      refine hi F H σ ρ S xs _ q e1 fun JJ F1 H1 x1 W => ?_
      have q1 := q.xt x1
      intro D hD
      have nD : ∀ {F2 H2 : Hp}, Xt F1 H1 F2 H2 → F2 D = none → H2 D ≠ none → ∀ {F3 H3 : Hp}, Xt F2 H2 F3 H3 → F3 D = none := fun _ n t _ _ x => x.off n t
      have grow : ∀ {F2 H2 : Hp} (l : List V), Xt F1 H1 F2 H2 → F2 D = none → Xt F1 H1 F2 (upd H2 D (.lst l)) := fun {F2 H2} l x n => by
        refine ⟨fun a u z => ?_, x.sub, fun a u z => ?_, x.fresh⟩
        · rw [upd_ne (ne_of_none z hD)]; exact x.ex a u z
        · have ne : a ≠ D := fun w => by rw [w, n] at z; cases z
          rw [upd_ne ne]
          exact x.fle a u z
      let Pv : Nat → Hp → Prop := fun i H2 => ∃ F2 acc done rest, Xt F1 H1 F2 H2 ∧ F2 D = none ∧ H2 D = some (.lst acc) ∧ Reps k.K F2 acc done ∧ lcGo f c qe (wipeO ρ vs) (xs.drop i) = some rest ∧ done ++ rest = ys ∧ done.length ≤ i
      refine ⟨fun i m H2 => m = xs.length - i ∧ i ≤ xs.length ∧ Pv i H2, ⟨_, rfl, Nat.zero_le _, F1, [], [], ys, ?_, fle_none x1.fle hD, upd_same, .nil, ?_, rfl, Nat.le_refl _⟩, ?_⟩
      · exact grow [] (Xt.refl x1.fle) (fle_none x1.fle hD)
      · simpa using e2
      · rintro i m H2 ⟨rfl, hi2, F2, acc, done, rest, x2, n2, a2, r2, e4, e5, l2⟩
        by_cases hlt : i < xs.length
        · refine .inr ⟨W.goes i F2 H2 hlt x2 x2.fle, fun H3 => i + 1 ≤ xs.length ∧ Pv (i + 1) H3, fun H3 p3 => ⟨xs.length - (i + 1), by omega, rfl, p3⟩, fun x H3 y => ?_⟩
          obtain ⟨F3, x3, rx⟩ := W.yields i F2 H2 x H3 hlt x2 x2.fle y
          have x13 := x2.trans x3
          have q3 := (q1.xt x2).xt x3
          obtain ⟨S3, m3, w3⟩ := q3.env.wipe vs
          have qw : Qs k F3 H3 (L2.wipe σ vs) (wipeO ρ vs) S3 := ⟨x3.fle, w3, fun a z => q3.off a (m3 a z)⟩
          rw [List.drop_eq_getElem_cons hlt] at e4
          unfold lcGo at e4
          cases e6 : f xs[i] (wipeO ρ vs) with
          | none => rw [e6] at e4; cases e4
          | some ρ1 =>
            simp only [e6] at e4
            refine hg F3 H3 _ _ ρ1 S3 x xs[i] _ qw rx e6 fun σ4 S4 q4 m4 wp => ⟨by rw [wp.wipe hJ]; exact wipe_wipe vs vs fun _ z => z, ?_⟩
            cases e7 : c ρ1 with
            | none => rw [e7] at e4; cases e4
            | some b =>
              simp only [e7] at e4
              refine ht F3 H3 σ4 ρ1 S4 b _ q4 e7 fun F5 H5 x5 => ?_
              have aD3 : H3 D = some (.lst acc) := x3.ex _ _ a2
              have aD5 : H5 D = some (.lst acc) := x5.ex _ _ aD3
              have n3 : F3 D = none := x3.off n2 (by rw [a2]; simp)
              have n5 : F5 D = none := x5.off n3 (by rw [aD3]; simp)
              cases b with
              | false =>
                rw [if_neg (by decide)]
                exact ⟨hlt, F5, acc, done, rest, x13.trans x5, n5, aD5, (r2.sub x3.sub).sub x5.sub, e4, e5, by omega⟩
              | true =>
                rw [if_pos rfl]
                simp only at e4
                split at e4
                · rename_i d e8
                  obtain ⟨rest', e9, e10⟩ := Option.map_eq_some_iff.mp e4
                  refine he F5 H5 σ4 ρ1 S4 _ _ (q4.xt x5) e8 fun v F6 H6 x6 w6 => ?_
                  have aD6 : H6 D = some (.lst acc) := x6.ex _ _ aD5
                  have n6 : F6 D = none := x6.off n5 (by rw [aD5]; simp)
                  have racc := ((r2.sub x3.sub).sub x5.sub).sub x6.sub
                  refine ⟨acc, aD6, by rw [racc.length]; omega, hlt, F6, acc ++ [v], done ++ [d], rest', ?_, n6, upd_same, racc.append (.cons w6.rep .nil), e9, ?_, by rw [List.length_append]; simp; omega⟩
                  · exact grow _ ((x13.trans x5).trans x6) n6
                  · rw [← e5, ← e10]; simp
                · cases e4
        · have ei : i = xs.length := by omega
          subst ei
          rw [List.drop_length] at e4
          have e4' := Option.some.inj (show some [] = some rest from e4)
          subst e4'
          rw [List.append_nil] at e5
          subst e5
          refine .inl ⟨W.stops F2 H2 x2 x2.fle, ?_⟩
          refine h (.ref D) F2 H2 [D] (x1.trans x2) (.lst (.inl a2) r2) ⟨List.nodup_cons.mpr ⟨List.not_mem_nil, .nil⟩, (fun a z => ?_), (fun a z => ?_), (fun a z ob u z2 => ?_)⟩
          · rw [List.mem_singleton.mp z]; exact none_back x1.ex hD
          · rw [List.mem_singleton.mp z]; exact n2
          · rw [List.mem_singleton.mp z, a2] at z2; cases z2
    · cases e
end FM
namespace FM
open PySem L2 PyProof.Rows
/-! ### what is one's own, against the entry -/
structure Ent where
  F : Hp
  H : Hp
  S : List Addr
structure Fr (e : Ent) (F H : Hp) (S : List Addr) : Prop where
  fle : FLe F H
  nd : S.Nodup
  off : ∀ a ∈ S, F a = none
  there : ∀ a ∈ S, H a ≠ none
  nofz : ∀ a ∈ S, ∀ o u, H a ≠ some (.frz o u)
  own : ∀ a ∈ S, a ∈ e.S ∨ e.H a = none
  f0 : Same e.F F
  fnew : ∀ a u, F a = some u → e.F a ≠ none ∨ a ∈ e.S ∨ e.H a = none
  keep : ∀ a o, e.H a = some o → a ∉ e.S → H a = some o
  dom : ∀ a, e.H a ≠ none → H a ≠ none
theorem Fr.mono {e : Ent} {F H : Hp} {S T : List Addr} (f : Fr e F H S) (nd : T.Nodup) (m : ∀ a ∈ T, a ∈ S) : Fr e F H T :=
  ⟨f.fle, nd, fun a z => f.off a (m a z), fun a z => f.there a (m a z), fun a z => f.nofz a (m a z), fun a z => f.own a (m a z), f.f0, f.fnew, f.keep, f.dom⟩
theorem Fr.perm {e : Ent} {F H : Hp} {S T : List Addr} (f : Fr e F H S) (p : T.Perm S) : Fr e F H T := f.mono (p.nodup_iff.mpr f.nd) fun a z => p.mem_iff.mp z
theorem Fr.sub {e : Ent} {F H : Hp} {S T : List Addr} (f : Fr e F H S) (p : T.Sublist S) : Fr e F H T := f.mono (p.nodup f.nd) fun a z => p.subset z
theorem Fr.xt {e : Ent} {F H F' H' : Hp} {S : List Addr} (f : Fr e F H S) (x : Xt F H F' H') : Fr e F' H' S where
  fle := x.fle
  nd := f.nd
  off := fun a m => x.off (f.off a m) (f.there a m)
  there := fun a m => by
    cases q : H a with
    | none => exact absurd q (f.there a m)
    | some u => rw [x.ex a u q]; simp
  nofz := fun a m o u z => by
    cases q : H a with
    | none => exact f.there a m q
    | some w =>
      rw [x.ex a w q] at z
      cases z
      exact f.nofz a m o u q
  own := f.own
  f0 := f.f0.trans x.sub
  fnew := fun a u z => by
    rcases x.fresh a u z with q | q
    · exact f.fnew a u q
    · refine .inr (.inr ?_)
      cases w : e.H a with
      | none => rfl
      | some y => exact absurd q (f.dom a (by rw [w]; simp))
  keep := fun a o z n => x.ex a o (f.keep a o z n)
  dom := fun a n => by
    cases q : H a with
    | none => exact absurd q (f.dom a n)
    | some u => rw [x.ex a u q]; simp
theorem Fr.fresh {e : Ent} {F H F' H' : Hp} {S T : List Addr} (f : Fr e F H S) (x : Xt F H F' H') (t : Fresh F' H H' T) (th : ∀ a ∈ T, H' a ≠ none) : Fr e F' H' (T ++ S) :=
  have g := f.xt x
  { g with
    nd := List.nodup_append.mpr ⟨t.nd, g.nd, fun a h1 b h2 z => f.there b h2 (by rw [← z]; exact t.new a h1)⟩
    off := fun a m => (List.mem_append.mp m).elim (t.off a) (g.off a)
    there := fun a m => (List.mem_append.mp m).elim (th a) (g.there a)
    nofz := fun a m => (List.mem_append.mp m).elim (t.nofz a) (g.nofz a)
    own := fun a m => (List.mem_append.mp m).elim (fun z => .inr (by
      cases w : e.H a with
      | none => rfl
      | some y => exact absurd (t.new a z) (f.dom a (by rw [w]; simp)))) (g.own a) }
theorem Fr.freeze {e : Ent} {F H : Hp} {S T : List Addr} (f : Fr e F H (T ++ S)) : Fr e (over F H T) H S where
  fle := over_le f.fle
  nd := (List.nodup_append.mp f.nd).2.1
  off := fun a m => by
    have n : a ∉ T := fun z => (List.nodup_append.mp f.nd).2.2 a z a m rfl
    rw [over_out n]
    exact f.off a (List.mem_append_right _ m)
  there := fun a m => f.there a (List.mem_append_right _ m)
  nofz := fun a m => f.nofz a (List.mem_append_right _ m)
  own := fun a m => f.own a (List.mem_append_right _ m)
  f0 := f.f0.trans (over_sub fun a m => f.off a (List.mem_append_left _ m))
  fnew := fun a u z => by
    rcases over_fresh z with q | q
    · exact f.fnew a u q
    · rcases f.own a (List.mem_append_left _ q) with w | w
      · exact .inr (.inl w)
      · exact .inr (.inr w)
  keep := f.keep
  dom := f.dom
/-- an owned object changes -/
theorem Fr.write {e : Ent} {F H : Hp} {S : List Addr} {a : Addr} {o : HO} (f : Fr e F H S) (m : a ∈ S) (hn : ∀ ob u, o ≠ .frz ob u) : Fr e F (upd H a o) S where
  fle := fun b u z => by
    have ne : b ≠ a := fun w => by rw [w, f.off a m] at z; cases z
    rw [upd_ne ne]
    exact f.fle b u z
  nd := f.nd
  off := f.off
  there := fun b z => by
    by_cases w : b = a
    · rw [w, upd_same]; simp
    · rw [upd_ne w]; exact f.there b z
  nofz := fun b z ob u q => by
    by_cases w : b = a
    · rw [w, upd_same] at q; cases q; exact hn _ _ rfl
    · rw [upd_ne w] at q; exact f.nofz b z ob u q
  own := f.own
  f0 := f.f0
  fnew := f.fnew
  keep := fun b u z n => by
    have ne : b ≠ a := fun w => by
      subst w
      rcases f.own b m with q | q
      · exact n q
      · rw [z] at q; cases q
    rw [upd_ne ne]
    exact f.keep b u z n
  dom := fun b n => by
    by_cases w : b = a
    · rw [w, upd_same]; simp
    · rw [upd_ne w]; exact f.dom b n
/-- behind a call that was handed S0 -/
theorem Fr.call {e : Ent} {F H F' H' : Hp} {S R S' : List Addr} (f : Fr e F H (S ++ R)) (c : Fr ⟨F, H, S⟩ F' H' S') : Fr e F' H' (S' ++ R) ∧ At R H H' := by
  have nd := List.nodup_append.mp f.nd
  have notS : ∀ a ∈ R, a ∉ S := fun a m z => nd.2.2 a z a m rfl
  have at_ : At R H H' := fun a m u z => c.keep a u z (notS a m)
  have eown : ∀ a, a ∈ S ∨ H a = none → a ∈ e.S ∨ e.H a = none := fun a z => by
    rcases z with z | z
    · exact f.own a (List.mem_append_left _ z)
    · refine .inr ?_
      cases w : e.H a with
      | none => rfl
      | some y => exact absurd z (f.dom a (by rw [w]; simp))
  refine ⟨⟨c.fle, ?_, fun a m => ?_, fun a m => ?_, fun a m o u z => ?_, fun a m => ?_, f.f0.trans c.f0, fun a u z => ?_, fun a o z n => ?_, fun a n => c.dom a (f.dom a n)⟩, at_⟩
  · refine List.nodup_append.mpr ⟨c.nd, nd.2.1, fun a h1 b h2 z => ?_⟩
    subst z
    rcases c.own a h1 with q | q
    · exact notS a h2 q
    · exact f.there a (List.mem_append_right _ h2) q
  · rcases List.mem_append.mp m with m | m
    · exact c.off a m
    · cases w : F' a with
      | none => rfl
      | some u =>
        rcases c.fnew a u w with q | q | q
        · exact absurd (f.off a (List.mem_append_right _ m)) q
        · exact absurd q (notS a m)
        · exact absurd q (f.there a (List.mem_append_right _ m))
  · rcases List.mem_append.mp m with m | m
    · exact c.there a m
    · exact c.dom a (f.there a (List.mem_append_right _ m))
  · rcases List.mem_append.mp m with m | m
    · exact c.nofz a m o u z
    · cases w : H a with
      | none => exact f.there a (List.mem_append_right _ m) w
      | some y =>
        rw [at_ a m y w] at z
        cases z
        exact f.nofz a (List.mem_append_right _ m) o u w
  · rcases List.mem_append.mp m with m | m
    · exact eown a (c.own a m)
    · exact f.own a (List.mem_append_right _ m)
  · rcases c.fnew a u z with q | q | q
    · cases w : F a with
      | none => exact absurd w q
      | some y => exact f.fnew a y w
    · exact .inr (eown a (.inl q))
    · exact .inr (eown a (.inr q))
  · refine c.keep a o (f.keep a o z n) fun q => ?_
    rcases f.own a (List.mem_append_left _ q) with w | w
    · exact n w
    · rw [z] at w; cases w
/-- entries compose -/
theorem Fr.trans {e : Ent} {F H F' H' : Hp} {S S' : List Addr} (f : Fr e F H S) (c : Fr ⟨F, H, S⟩ F' H' S') : Fr e F' H' S' := by
  have f' : Fr e F H (S ++ []) := by rw [List.append_nil]; exact f
  have := (f'.call c).1
  rw [List.append_nil] at this
  exact this
theorem Fr.refl {e : Ent} {F H : Hp} {S : List Addr} (f : Fr e F H S) : Fr ⟨F, H, S⟩ F H S :=
  ⟨f.fle, f.nd, f.off, f.there, f.nofz, fun _ m => .inl m, Same.refl _, fun a u z => .inl (by show F a ≠ none; rw [z]; simp), fun _ _ z _ => z, fun _ n => n⟩

/-! ### the state of a body -/
/-- an exception: its class, what its own fields hold -/
structure Ex where
  c : Nat
  fs : Option (List (Str × PD))
structure StW (k : Kc) (P : List (Nat × V)) (e : Ent) (σ : L2.St) (ρ : List O) (vs : List V) (os : List O) (F H : Hp) (S1 S2 : List Addr) : Prop where
  env : Envs k F H σ ρ S1
  tmp : Owns k F H vs os S2
  fr : Fr e F H (S1 ++ S2)
  pin : ∀ p ∈ P, σ[p.1]? = some (some p.2)
def St (k : Kc) (P : List (Nat × V)) (e : Ent) (σ : L2.St) (ρ : List O) (vs : List V) (os : List O) (H : Hp) : Prop := ∃ F S1 S2, StW k P e σ ρ vs os F H S1 S2
inductive RepF (K : Frag) (F : Hp) : List (Str × V) → List (Str × PD) → Prop
  | nil : RepF K F [] []
  | cons {x : Str} {v : V} {d : PD} {vs : List (Str × V)} {ds : List (Str × PD)} : Rep K F v d → RepF K F vs ds → RepF K F ((x, v) :: vs) ((x, d) :: ds)
def XRep (k : Kc) (F H : Hp) (x : Ex) (c : Value) (d : Option Addr) : Prop := c = .ref (k.cl x.c) ∧ match x.fs with
  | none => d = none
  | some fs => ∃ dx vs, d = some dx ∧ H dx = some (.xd vs) ∧ RepF k.K F vs fs
def StX (k : Kc) (P : List (Nat × V)) (e : Ent) (σ : L2.St) (ρ : List O) (vs : List V) (os : List O) (x : Ex) (c : Value) (d : Option Addr) (H : Hp) : Prop := ∃ F S1 S2, StW k P e σ ρ vs os F H S1 S2 ∧ XRep k F H x c d
inductive R (α : Type) where
  | ok (a : α) (ρ : List O)
  | exc (x : Ex) (ρ : List O)
  | bad
abbrev M (α : Type) := List O → R α
def ROk {α β : Type} (k : Kc) (P : List (Nat × V)) (e : Ent) (σ : L2.St) (vs : List V) (os : List O) (E : XK) (good : α → List O → Prop) : R α → Prop
  | .ok a ρ => good a ρ
  | .exc x ρ => ∀ c d H, StX k P e σ ρ vs os x c d H → E c d H
  | .bad => False
def TEm (k : Kc) (E : XK) (t : TE) (m : M O) : Prop := ∀ (P : List (Nat × V)) (e : Ent) (σ : L2.St) (ρ : List O) (vs : List V) (os : List O) (H : Hp) (Q : VK), St k P e σ ρ vs os H →
  ROk (β := Unit) k P e σ vs os E (fun o ρ' => ∀ v H', St k P e σ ρ' (v :: vs) (o :: os) H' → Q v H') (m ρ) → t σ H Q
def TTm (k : Kc) (E : XK) (t : TT) (m : M Bool) : Prop := ∀ (P : List (Nat × V)) (e : Ent) (σ : L2.St) (ρ : List O) (vs : List V) (os : List O) (H : Hp) (Q : Bool → Hp → Prop), St k P e σ ρ vs os H →
  ROk (β := Unit) k P e σ vs os E (fun b ρ' => ∀ H', St k P e σ ρ' vs os H' → Q b H') (m ρ) → t σ H Q
/-- arguments: Rf says which are slots handed on -/
def RefsAt (σ : L2.St) : List (Option Nat) → List V → Prop
  | [], [] => True
  | none :: as, _ :: ws => RefsAt σ as ws
  | some i :: as, w :: ws => σ[i]? = some (some w) ∧ RefsAt σ as ws
  | _, _ => False
def TAm (k : Kc) (E : XK) (t : TA) (as : List (Option Nat)) (m : M (List O)) : Prop := ∀ (P : List (Nat × V)) (e : Ent) (σ : L2.St) (ρ : List O) (vs : List V) (os : List O) (H : Hp) (Q : List V → Hp → Prop), St k P e σ ρ vs os H →
  ROk (β := Unit) k P e σ vs os E (fun xs ρ' => ∀ ws H', St k P e σ ρ' (ws ++ vs) (xs ++ os) H' → ws.length = xs.length → RefsAt σ as ws → Q ws H') (m ρ) → t σ H Q

theorem StW.qs {k : Kc} {P : List (Nat × V)} {e : Ent} {σ : L2.St} {ρ : List O} {vs : List V} {os : List O} {F H : Hp} {S1 S2 : List Addr} (s : StW k P e σ ρ vs os F H S1 S2) : Qs k F H σ ρ S1 :=
  ⟨s.fr.fle, s.env, fun a m => s.fr.off a (List.mem_append_left _ m)⟩
theorem StW.xt {k : Kc} {P : List (Nat × V)} {e : Ent} {σ : L2.St} {ρ : List O} {vs : List V} {os : List O} {F H F' H' : Hp} {S1 S2 : List Addr} (s : StW k P e σ ρ vs os F H S1 S2) (x : Xt F H F' H') : StW k P e σ ρ vs os F' H' S1 S2 :=
  ⟨s.env.xt x, s.tmp.mono x.sub (At.of x.ex), s.fr.xt x, s.pin⟩
/-- a new value beside -/
theorem StW.push {k : Kc} {P : List (Nat × V)} {e : Ent} {σ : L2.St} {ρ : List O} {vs : List V} {os : List O} {F H F' H' : Hp} {S1 S2 T : List Addr} {v : V} {o : O} (s : StW k P e σ ρ vs os F H S1 S2) (x : Xt F H F' H') (w : Own k F' H' v o T) (t : Fresh F' H H' T) :
    StW k P e σ ρ (v :: vs) (o :: os) F' H' S1 (T ++ S2) := by
  have s' := s.xt x
  refine ⟨s'.env, .cons w s'.tmp, ?_, s.pin⟩
  refine (s.fr.fresh x t w.there).perm ?_
  rw [← List.append_assoc, ← List.append_assoc]
  exact List.Perm.append_right _ List.perm_append_comm
def mLift (q : QE) : M O := fun ρ => match q ρ with
  | some (.fz d) => .ok (.fz d) ρ
  | _ => .bad
def mNew (q : QE) : M O := fun ρ => match q ρ with
  | some o => .ok o ρ
  | none => .bad
section
variable {k : Kc} {E : XK} {t ta tb te : TE} {q : QE} {m m1 m2 : M O}
theorem tem_new (h : TEn k t q) : TEm k E t (mNew q) := by
  intro P e σ ρ vs os H Q s r
  obtain ⟨F, S1, S2, s⟩ := s
  unfold mNew at r
  cases e1 : q ρ with
  | none => rw [e1] at r; exact r.elim
  | some o =>
    rw [e1] at r
    exact h F H σ ρ S1 o Q s.qs e1 fun v F' H' T x w f => r v H' ⟨F', S1, T ++ S2, s.push x w f⟩
theorem tem_lift (h : TEv k t q) : TEm k E t (mLift q) := by
  intro P e σ ρ vs os H Q s r
  obtain ⟨F, S1, S2, s⟩ := s
  unfold mLift at r
  split at r
  · rename_i d e1
    exact h F H σ ρ S1 _ Q s.qs e1 fun v F' H' x w => r v H' ⟨F', S1, [] ++ S2, s.push x (.fz w.rep) ⟨.nil, (fun a m => by cases m), (fun a m => by cases m), (fun a m => by cases m)⟩⟩
  · exact r.elim
/-- what is one's own, frozen -/
def frzM (m : M O) : M O := fun ρ => match m ρ with
  | .ok o ρ' => match toPD o with
    | some d => .ok (.fz d) ρ'
    | none => .bad
  | r => r
theorem StW.frz {P : List (Nat × V)} {e : Ent} {σ : L2.St} {ρ : List O} {vs : List V} {os : List O} {F H : Hp} {S1 S2 : List Addr} {v : V} {o : O} {d : PD} (s : StW k P e σ ρ (v :: vs) (o :: os) F H S1 S2) (e1 : toPD o = some d) :
    St k P e σ ρ (v :: vs) (.fz d :: os) H := by
  obtain ⟨env, tmp, fr, pin⟩ := s
  cases tmp with
  | @cons _ _ _ _ T U w r =>
    have fr' : Fr e F H (T ++ (S1 ++ U)) := fr.perm (by
      rw [← List.append_assoc, ← List.append_assoc]
      exact List.Perm.append_right _ List.perm_append_comm)
    have f2 := fr'.freeze
    have off : ∀ a ∈ T, F a = none := fun a m => fr'.off a (List.mem_append_left _ m)
    exact ⟨over F H T, S1, [] ++ U, env.mono (over_sub off) (At.of (Same.refl _)), .cons (.fz (w.freeze off e1)) (r.mono (over_sub off) (At.of (Same.refl _))), f2, pin⟩
theorem tem_frz (h : TEm k E t m) : TEm k E t (frzM m) := by
  intro P e σ ρ vs os H Q s r
  refine h P e σ ρ vs os H Q s ?_
  unfold frzM at r
  cases e1 : m ρ with
  | ok o ρ' =>
    rw [e1] at r
    simp only at r
    cases e2 : toPD o with
    | none => rw [e2] at r; exact r.elim
    | some d =>
      rw [e2] at r
      intro v H' s'
      obtain ⟨F, S1, S2, s'⟩ := s'
      exact r v H' (s'.frz e2)
  | exc x ρ' => rw [e1] at r; exact r
  | bad => rw [e1] at r; exact r
/-- two operands -/
def mOp (f : O → O → Option O) (m1 m2 : M O) : M O := fun ρ => match m1 ρ with
  | .ok (.fz d1) ρ1 => match m2 ρ1 with
    | .ok (.fz d2) ρ2 => match f (.fz d1) (.fz d2) with
      | some (.fz d) => .ok (.fz d) ρ2
      | _ => .bad
    | .ok _ _ => .bad
    | .exc x ρ2 => .exc x ρ2
    | .bad => .bad
  | .ok _ _ => .bad
  | .exc x ρ1 => .exc x ρ1
  | .bad => .bad
theorem StX.pop {P : List (Nat × V)} {e : Ent} {σ : L2.St} {ρ : List O} {vs : List V} {os : List O} {v : V} {o : O} {x : Ex} {c : Value} {d : Option Addr} {H : Hp} (s : StX k P e σ ρ (v :: vs) (o :: os) x c d H) : StX k P e σ ρ vs os x c d H := by
  obtain ⟨F, S1, S2, ⟨env, tmp, fr, pin⟩, xr⟩ := s
  cases tmp with
  | @cons _ _ _ _ T U w r => exact ⟨F, S1, U, ⟨env, r, fr.sub (List.Sublist.append (.refl _) (List.sublist_append_right _ _)), pin⟩, xr⟩
theorem St.pop {P : List (Nat × V)} {e : Ent} {σ : L2.St} {ρ : List O} {vs : List V} {os : List O} {v : V} {o : O} {H : Hp} (s : St k P e σ ρ (v :: vs) (o :: os) H) : St k P e σ ρ vs os H := by
  obtain ⟨F, S1, S2, ⟨env, tmp, fr, pin⟩⟩ := s
  cases tmp with
  | @cons _ _ _ _ T U w r => exact ⟨F, S1, U, ⟨env, r, fr.sub (List.Sublist.append (.refl _) (List.sublist_append_right _ _)), pin⟩⟩
theorem StW.top {P : List (Nat × V)} {e : Ent} {σ : L2.St} {ρ : List O} {vs : List V} {os : List O} {F H : Hp} {S1 S2 : List Addr} {v : V} {d : PD} (s : StW k P e σ ρ (v :: vs) (.fz d :: os) F H S1 S2) : Rep k.K F v d ∧ StW k P e σ ρ vs os F H S1 S2 := by
  obtain ⟨env, tmp, fr, pin⟩ := s
  cases tmp with
  | cons w r =>
    cases w with
    | fz w => exact ⟨w, ⟨env, r, fr, pin⟩⟩
theorem tem_op {r : R2} {f : O → O → Option O} (h1 : TEm k E ta m1) (h2 : TEm k E tb m2) (hr : OpV k r f) : TEm k E (tOp r ta tb) (mOp f m1 m2) := by
  intro P e σ ρ vs os H Q s g
  refine h1 P e σ ρ vs os H _ s ?_
  unfold mOp at g
  cases e1 : m1 ρ with
  | bad => rw [e1] at g; exact g
  | exc x ρ1 => rw [e1] at g; exact g
  | ok o1 ρ1 =>
    rw [e1] at g
    intro v H1 s1
    cases o1 with
    | fz d1 =>
      simp only at g
      refine h2 P e σ ρ1 _ _ H1 _ s1 ?_
      cases e2 : m2 ρ1 with
      | bad => rw [e2] at g; exact g
      | exc x ρ2 =>
        rw [e2] at g
        exact fun c d H' sx => g c d H' sx.pop
      | ok o2 ρ2 =>
        rw [e2] at g
        intro w H2 s2
        cases o2 with
        | fz d2 =>
          simp only at g
          obtain ⟨F, S1, S2, s2⟩ := s2
          obtain ⟨r2, s3⟩ := s2.top
          obtain ⟨r1, s4⟩ := s3.top
          split at g
          · rename_i d ed
            refine hr F H2 [] v w _ _ _ Q s4.fr.fle (fun a m => by cases m) (fun a m => by cases m) (.fz r1) (.fz r2) ed fun z F' H' x wz => g z H' ⟨F', S1, [] ++ S2, s4.push x (.fz wz.rep) ⟨.nil, (fun a m => by cases m), (fun a m => by cases m), (fun a m => by cases m)⟩⟩
          · exact g.elim
        | _ => exact g.elim
    | _ => exact g.elim
/-- the left one first with effect, then a view -/
def mOpV (f : O → O → Option O) (m1 : M O) (q2 : QE) : M O := fun ρ => match m1 ρ with
  | .ok (.fz d1) ρ1 => match q2 ρ1 with
    | some o2 => match f (.fz d1) o2 with
      | some (.fz d) => .ok (.fz d) ρ1
      | _ => .bad
    | none => .bad
  | .ok _ _ => .bad
  | .exc x ρ1 => .exc x ρ1
  | .bad => .bad
theorem tem_opV {r : R2} {f : O → O → Option O} {q2 : QE} (h1 : TEm k E ta m1) (h2 : TEv k tb q2) (hr : OpV k r f) : TEm k E (tOp r ta tb) (mOpV f m1 q2) := by
  intro P e σ ρ vs os H Q s g
  refine h1 P e σ ρ vs os H _ s ?_
  unfold mOpV at g
  cases e1 : m1 ρ with
  | bad => rw [e1] at g; exact g
  | exc x ρ1 => rw [e1] at g; exact g
  | ok o1 ρ1 =>
    rw [e1] at g
    intro v H1 s1
    cases o1 with
    | fz d1 =>
      simp only at g
      cases e2 : q2 ρ1 with
      | none => rw [e2] at g; exact g.elim
      | some o2 =>
        rw [e2] at g
        simp only at g
        obtain ⟨F, S1, S2, s1⟩ := s1
        obtain ⟨r1, s3⟩ := s1.top
        split at g
        · rename_i d ed
          refine h2 F H1 σ ρ1 S1 o2 _ s3.qs e2 fun w F2 H2 x2 w2 => ?_
          have s4 := s3.xt x2
          exact hr F2 H2 S1 v w _ _ _ Q s4.fr.fle (fun a m => s4.fr.off a (List.mem_append_left _ m)) (fun a m => s4.fr.there a (List.mem_append_left _ m)) (.fz (r1.sub x2.sub)) w2 ed fun z F' H' x wz => g z H' ⟨F', S1, [] ++ S2, s4.push x (.fz wz.rep) ⟨.nil, (fun a m => by cases m), (fun a m => by cases m), (fun a m => by cases m)⟩⟩
        · exact g.elim
    | _ => exact g.elim
theorem Envs.slot {F H : Hp} {σ : L2.St} {ρ : List O} {S : List Addr} {i : Nat} {o : O} (h : Envs k F H σ ρ S) (e : qVar i ρ = some o) : ∃ v, σ[i]? = some (some v) ∧ Vw k F H S v o := by
  have e1 : ρ[i]? = some o ∧ o ≠ .dead := by
    unfold qVar at e
    split at e
    · cases e
    · rename_i hne
      refine ⟨e, fun z => hne ?_⟩
      rw [e, z]
  rcases h.get e1.1 with z | z
  · exact absurd z e1.2
  · exact z
/-- a slot's view on the left, looked up behind the right one's effect -/
def mOpS (f : O → O → Option O) (i : Nat) (m2 : M O) : M O := fun ρ => match qVar i ρ with
  | none => .bad
  | some _ => match m2 ρ with
    | .ok (.fz d2) ρ1 => match qVar i ρ1 with
      | some o1 => match f o1 (.fz d2) with
        | some (.fz d) => .ok (.fz d) ρ1
        | _ => .bad
      | none => .bad
    | .ok _ _ => .bad
    | .exc x ρ1 => .exc x ρ1
    | .bad => .bad
theorem tem_opS {r : R2} {f : O → O → Option O} {i : Nat} (h2 : TEm k E tb m2) (hr : OpV k r f) : TEm k E (tOp r (tVar i) tb) (mOpS f i m2) := by
  intro P e σ ρ vs os H Q s g
  unfold mOpS at g
  cases e0 : qVar i ρ with
  | none => rw [e0] at g; exact g.elim
  | some o0 =>
    rw [e0] at g
    simp only at g
    obtain ⟨F0, S1, S2, s0⟩ := id s
    obtain ⟨v, hv, _⟩ := s0.env.slot e0
    refine ⟨v, hv, h2 P e σ ρ vs os H _ s ?_⟩
    cases e2 : m2 ρ with
    | bad => rw [e2] at g; exact g
    | exc x ρ2 => rw [e2] at g; exact g
    | ok o2 ρ1 =>
      rw [e2] at g
      intro w H2 s2
      cases o2 with
      | fz d2 =>
        simp only at g
        cases e1 : qVar i ρ1 with
        | none => rw [e1] at g; exact g.elim
        | some o1 =>
          rw [e1] at g
          simp only at g
          obtain ⟨F, T1, T2, s2⟩ := s2
          obtain ⟨r2, s4⟩ := s2.top
          obtain ⟨v', hv', wv⟩ := s4.env.slot e1
          rw [hv] at hv'
          cases hv'
          split at g
          · rename_i d ed
            exact hr F H2 T1 v w _ _ _ Q s4.fr.fle (fun a m => s4.fr.off a (List.mem_append_left _ m)) (fun a m => s4.fr.there a (List.mem_append_left _ m)) wv (.fz r2) ed fun z F' H' x wz => g z H' ⟨F', T1, [] ++ T2, s4.push x (.fz wz.rep) ⟨.nil, (fun a m => by cases m), (fun a m => by cases m), (fun a m => by cases m)⟩⟩
          · exact g.elim
      | _ => exact g.elim
end
end FM
namespace FM
open PySem L2 PyProof.Rows
/-! ### parts of a footprint -/
def Sbp (T S : List Addr) : Prop := ∃ U, (T ++ U).Perm S
theorem Sbp.fr {e : Ent} {F H : Hp} {S T : List Addr} (f : Fr e F H S) (h : Sbp T S) : Fr e F H T := by
  obtain ⟨U, p⟩ := h
  exact (f.perm p).sub (List.sublist_append_left _ _)
theorem Sbp.of_count {T S : List Addr} (h : ∀ a, T.count a ≤ S.count a) : Sbp T S := by
  induction T generalizing S with
  | nil => exact ⟨S, .refl _⟩
  | cons a T ih =>
    have ha : a ∈ S := List.count_pos_iff.mp (by
      have := h a
      rw [List.count_cons_self] at this
      omega)
    obtain ⟨U, p⟩ := ih (S := S.erase a) fun b => by
      have hb := h b
      rw [List.count_erase]
      rw [List.count_cons] at hb
      by_cases e : (a == b) = true
      · have eq : a = b := by simpa using e
        subst eq
        simp only [beq_self_eq_true, if_true] at hb ⊢
        omega
      · have ne : ¬ a = b := by simpa using e
        simp only [e] at hb ⊢
        have e2 : (b == a) = false := by simpa using fun z => ne z.symm
        simp at hb ⊢
        omega
    refine ⟨U, ?_⟩
    exact (List.Perm.cons a p).trans (List.perm_cons_erase ha).symm
theorem Sbp.count {T S : List Addr} (h : Sbp T S) (a : Addr) : T.count a ≤ S.count a := by
  obtain ⟨U, p⟩ := h
  have := p.count_eq a
  rw [List.count_append] at this
  omega
theorem Sbp.sub {T S : List Addr} (h : T.Sublist S) : Sbp T S := .of_count fun a => h.count_le a
theorem Sbp.perm {T S : List Addr} (h : T.Perm S) : Sbp T S := .of_count fun a => by rw [h.count_eq a]; exact Nat.le_refl _
theorem Sbp.mem {T S : List Addr} (h : Sbp T S) {a : Addr} (m : a ∈ T) : a ∈ S := List.count_pos_iff.mp (by
  have := h.count a
  have := List.count_pos_iff.mpr m
  omega)
theorem Owns.split {k : Kc} {F H : Hp} : ∀ {ws zs : List V} {xs ys : List O} {S : List Addr}, ws.length = xs.length → Owns k F H (ws ++ zs) (xs ++ ys) S → ∃ A B, S = A ++ B ∧ Owns k F H ws xs A ∧ Owns k F H zs ys B
  | [], _, [], _, S, _, h => ⟨[], S, rfl, .nil, h⟩
  | _ :: ws, _, _ :: xs, _, _, e, .cons (S := T) w r => by
    obtain ⟨A, B, e1, h1, h2⟩ := Owns.split (ws := ws) (xs := xs) (Nat.succ.inj e) r
    subst e1
    exact ⟨T ++ A, B, by rw [List.append_assoc], .cons w h1, h2⟩
theorem Owns.join {k : Kc} {F H : Hp} : ∀ {ws zs : List V} {xs ys : List O} {A B : List Addr}, Owns k F H ws xs A → Owns k F H zs ys B → ∃ S, S = A ++ B ∧ Owns k F H (ws ++ zs) (xs ++ ys) S
  | _, _, _, _, _, B, .nil, h => ⟨B, rfl, h⟩
  | _, _, _, _, _, B, .cons (S := T) (T := U) w r, h => by
    obtain ⟨S, e, q⟩ := Owns.join r h
    exact ⟨T ++ S, by rw [e, List.append_assoc], .cons w q⟩
theorem Envs.take {k : Kc} {F H : Hp} : ∀ {σ : L2.St} {ρ : List O} {S : List Addr} {i : Nat} {o : O}, Envs k F H σ ρ S → ρ[i]? = some o → o ≠ .dead → ∃ v T R, σ[i]? = some (some v) ∧ Own k F H v o T ∧ Envs k F H σ (ρ.set i .dead) R ∧ (T ++ R).Perm S
  | _, _, _, _, _, .nil, e, _ => by simp at e
  | _, _, _, 0, _, .dead r, e, n => by
    have e' : _ = _ := Option.some.inj (by simpa using e)
    exact absurd e'.symm n
  | _, _, _, 0, _, .cons h r, e, n => by
    have e' : _ = _ := Option.some.inj (by simpa using e)
    subst e'
    exact ⟨_, _, _, rfl, h, .dead r, .refl _⟩
  | _, _, _, i + 1, _, .dead r, e, n => by
    obtain ⟨v, T, R, h1, h2, h3, h4⟩ := Envs.take (i := i) r (by simpa using e) n
    exact ⟨v, T, R, by simpa using h1, h2, .dead h3, h4⟩
  | _, _, _, i + 1, _, .cons (S := S1) h r, e, n => by
    obtain ⟨v, T, R, h1, h2, h3, h4⟩ := Envs.take (i := i) r (by simpa using e) n
    refine ⟨v, T, S1 ++ R, by simpa using h1, h2, .cons h h3, List.perm_iff_count.mpr fun a => ?_⟩
    have := h4.count_eq a
    simp only [List.count_append] at this ⊢
    omega
theorem qVar_some {i : Nat} {ρ : List O} {o : O} (e : qVar i ρ = some o) : ρ[i]? = some o ∧ o ≠ .dead := by
  unfold qVar at e
  split at e
  · cases e
  · rename_i hne
    refine ⟨e, fun z => hne ?_⟩
    rw [e, z]
theorem Envs.put {k : Kc} {F H : Hp} {σ : L2.St} {ρ : List O} {S T : List Addr} {i : Nat} {v : V} {o : O} (h : Envs k F H σ ρ S) (hv : σ[i]? = some (some v)) (w : Own k F H v o T) : ∃ U, Sbp U (T ++ S) ∧ Envs k F H σ (ρ.set i o) U := by
  have es : σ.set i (some v) = σ := by
    apply List.ext_getElem?
    intro j
    rw [List.getElem?_set]
    split
    · rename_i e
      subst e
      split
      · exact hv.symm
      · rename_i hn
        rw [List.getElem?_eq_none (by omega)] at hv
        cases hv
    · rfl
  rcases Envs.setO w i h with ⟨S', m, U, p, q⟩ | ⟨S2, m, q⟩
  · rw [es] at q
    refine ⟨U, .of_count fun a => ?_, q⟩
    have h1 := p.count_eq a
    have h2 := m.count_le a
    simp only [List.count_append] at h1 ⊢
    omega
  · rw [es] at q
    refine ⟨S2, .of_count fun a => ?_, q⟩
    have h2 := m.count_le a
    simp only [List.count_append]
    omega
/-! ### arguments -/
def mNil : M (List O) := fun ρ => .ok [] ρ
def mCons (m1 : M O) (m2 : M (List O)) : M (List O) := fun ρ => match m1 ρ with
  | .ok o ρ1 => match m2 ρ1 with
    | .ok xs ρ2 => .ok (o :: xs) ρ2
    | .exc x ρ2 => .exc x ρ2
    | .bad => .bad
  | .exc x ρ1 => .exc x ρ1
  | .bad => .bad
def mRef (i : Nat) (m2 : M (List O)) : M (List O) := fun ρ => match qVar i ρ with
  | none => .bad
  | some _ => match m2 ρ with
    | .ok xs ρ2 => .ok (.dead :: xs) ρ2
    | .exc x ρ2 => .exc x ρ2
    | .bad => .bad
section
variable {k : Kc} {E : XK} {te : TE} {tl : TA} {m1 : M O} {m2 : M (List O)} {as : List (Option Nat)}
theorem tam_nil : TAm k E tNil [] mNil := by
  intro P e σ ρ vs os H Q s g
  exact g [] H s rfl trivial
theorem StW.rot {P : List (Nat × V)} {e : Ent} {σ : L2.St} {ρ : List O} {vs ws : List V} {os xs : List O} {F H : Hp} {S1 S2 : List Addr} {v : V} {o : O} (hl : ws.length = xs.length) (s : StW k P e σ ρ (ws ++ v :: vs) (xs ++ o :: os) F H S1 S2) :
    St k P e σ ρ ((v :: ws) ++ vs) ((o :: xs) ++ os) H := by
  obtain ⟨env, tmp, fr, pin⟩ := s
  obtain ⟨A, B, e1, h1, h2⟩ := Owns.split hl tmp
  subst e1
  cases h2 with
  | @cons _ _ _ _ T U w r =>
    obtain ⟨S, e2, h3⟩ := Owns.join (.cons w h1) r
    refine ⟨F, S1, S, env, h3, fr.perm ?_, pin⟩
    subst e2
    refine List.perm_iff_count.mpr fun a => ?_
    simp only [List.count_append]
    omega
theorem StX.drop {P : List (Nat × V)} {e : Ent} {σ : L2.St} {ρ : List O} {vs : List V} {os : List O} {v : V} {o : O} {x : Ex} {c : Value} {d : Option Addr} {H : Hp} (s : StX k P e σ ρ (v :: vs) (o :: os) x c d H) : StX k P e σ ρ vs os x c d H := s.pop
theorem tam_val (h1 : TEm k E te m1) (h2 : TAm k E tl as m2) : TAm k E (tCons te tl) (none :: as) (mCons m1 m2) := by
  intro P e σ ρ vs os H Q s g
  refine h1 P e σ ρ vs os H _ s ?_
  unfold mCons at g
  cases e1 : m1 ρ with
  | bad => rw [e1] at g; exact g
  | exc x ρ1 => rw [e1] at g; exact g
  | ok o ρ1 =>
    rw [e1] at g
    intro v H1 s1
    simp only at g
    refine h2 P e σ ρ1 _ _ H1 _ s1 ?_
    cases e2 : m2 ρ1 with
    | bad => rw [e2] at g; exact g
    | exc x ρ2 =>
      rw [e2] at g
      exact fun c d H' sx => g c d H' sx.pop
    | ok xs ρ2 =>
      rw [e2] at g
      intro ws H2 s2 hl hr
      obtain ⟨F, S1, S2, s2⟩ := s2
      exact g (v :: ws) H2 (s2.rot hl) (by simp [hl]) hr
theorem tam_ref {i : Nat} (h2 : TAm k E tl as m2) : TAm k E (tCons (tVar i) tl) (some i :: as) (mRef i m2) := by
  intro P e σ ρ vs os H Q s g
  unfold mRef at g
  cases e0 : qVar i ρ with
  | none => rw [e0] at g; exact g.elim
  | some o0 =>
    rw [e0] at g
    simp only at g
    obtain ⟨F0, S1, S2, s0⟩ := id s
    obtain ⟨v, hv, _⟩ := s0.env.slot e0
    refine ⟨v, hv, ?_⟩
    have s1 : St k P e σ ρ (v :: vs) (.dead :: os) H := ⟨F0, S1, [] ++ S2, s0.env, .cons .dead s0.tmp, s0.fr, s0.pin⟩
    refine h2 P e σ ρ _ _ H _ s1 ?_
    cases e2 : m2 ρ with
    | bad => rw [e2] at g; exact g
    | exc x ρ2 =>
      rw [e2] at g
      exact fun c d H' sx => g c d H' sx.pop
    | ok xs ρ2 =>
      rw [e2] at g
      intro ws H2 s2 hl hr
      obtain ⟨F, S1, S2, s2⟩ := s2
      exact g (v :: ws) H2 (s2.rot hl) (by simp [hl]) ⟨hv, hr⟩
end
def fillA : List (Option Nat) → List O → List O → Option (List O × List O)
  | [], [], ρ => some ([], ρ)
  | none :: as, x :: xs, ρ => match fillA as xs ρ with
    | none => none
    | some z => some (x :: z.1, z.2)
  | some i :: as, _ :: xs, ρ => match qVar i ρ with
    | none => none
    | some o => match fillA as xs (ρ.set i .dead) with
      | none => none
      | some z => some (o :: z.1, z.2)
  | _, _, _ => none
def backA : List (Option Nat) → List O → List O → List O
  | none :: as, _ :: xs, ρ => backA as xs ρ
  | some i :: as, o :: xs, ρ => backA as xs (ρ.set i o)
  | _, _, ρ => ρ
theorem fill_ok {k : Kc} {F H : Hp} {σ : L2.St} : ∀ {as : List (Option Nat)} {xs ρ ys ρ' : List O} {ws : List V} {S A : List Addr}, Envs k F H σ ρ S → Owns k F H ws xs A → RefsAt σ as ws → fillA as xs ρ = some (ys, ρ') →
    ∃ S' A', Envs k F H σ ρ' S' ∧ Owns k F H ws ys A' ∧ Sbp (A' ++ S') (A ++ S)
  | [], [], ρ, ys, ρ', ws, S, A, en, ow, _, e => by
    have e' := Option.some.inj e
    cases e'
    cases ow
    exact ⟨S, [], en, .nil, .perm (.refl _)⟩
  | none :: as, x :: xs, ρ, ys, ρ', _, S, _, en, .cons (S := T) (T := A2) w r, hr, e => by
    unfold fillA at e
    cases e1 : fillA as xs ρ with
    | none => rw [e1] at e; cases e
    | some z =>
      rw [e1] at e
      have e' := Option.some.inj e
      cases e'
      obtain ⟨S', A', h1, h2, h3⟩ := fill_ok en r (show RefsAt σ as _ from hr) e1
      refine ⟨S', T ++ A', h1, .cons w h2, .of_count fun a => ?_⟩
      have := h3.count a
      simp only [List.count_append] at this ⊢
      omega
  | some i :: as, x :: xs, ρ, ys, ρ', v :: ws, S, _, en, .cons (S := T) (T := A2) w r, hr, e => by
    unfold fillA at e
    cases e0 : qVar i ρ with
    | none => rw [e0] at e; cases e
    | some o =>
      rw [e0] at e
      simp only at e
      cases e1 : fillA as xs (ρ.set i .dead) with
      | none => rw [e1] at e; cases e
      | some z =>
        rw [e1] at e
        have e' := Option.some.inj e
        cases e'
        obtain ⟨hv, hr⟩ := hr
        obtain ⟨g1, g2⟩ := qVar_some e0
        obtain ⟨v', T', R, a1, a2, a3, a4⟩ := en.take g1 g2
        rw [hv] at a1
        cases a1
        obtain ⟨S', A', h1, h2, h3⟩ := fill_ok a3 r hr e1
        refine ⟨S', T' ++ A', h1, .cons a2 h2, .of_count fun a => ?_⟩
        have c1 := h3.count a
        have c2 := a4.count_eq a
        simp only [List.count_append] at c1 c2 ⊢
        omega
  | [], _ :: _, _, _, _, _, _, _, _, _, _, e => by cases e
  | none :: _, [], _, _, _, _, _, _, _, _, _, e => by cases e
  | some _ :: _, [], _, _, _, _, _, _, _, _, _, e => by cases e
theorem back_ok {k : Kc} {F H : Hp} {σ : L2.St} : ∀ {as : List (Option Nat)} {outs ρ : List O} {ws : List V} {S A : List Addr}, Envs k F H σ ρ S → Owns k F H ws outs A → RefsAt σ as ws → ∃ S', Envs k F H σ (backA as outs ρ) S' ∧ Sbp S' (A ++ S)
  | [], outs, ρ, ws, S, A, en, ow, _ => ⟨S, en, .sub (List.sublist_append_right _ _)⟩
  | none :: as, [], ρ, ws, S, A, en, ow, _ => ⟨S, en, .sub (List.sublist_append_right _ _)⟩
  | some i :: as, [], ρ, ws, S, A, en, ow, _ => ⟨S, en, .sub (List.sublist_append_right _ _)⟩
  | none :: as, x :: xs, ρ, _, S, _, en, .cons (S := T) (T := A2) w r, hr => by
    obtain ⟨S', h1, h2⟩ := back_ok en r (show RefsAt σ as _ from hr)
    refine ⟨S', h1, .of_count fun a => ?_⟩
    have := h2.count a
    simp only [List.count_append] at this ⊢
    omega
  | some i :: as, x :: xs, ρ, v :: ws, S, _, en, .cons (S := T) (T := A2) w r, hr => by
    obtain ⟨hv, hr⟩ := hr
    obtain ⟨U, h0, en'⟩ := en.put hv w
    obtain ⟨S', h1, h2⟩ := back_ok en' r hr
    refine ⟨S', h1, .of_count fun a => ?_⟩
    have c1 := h2.count a
    have c2 := h0.count a
    simp only [List.count_append] at c1 c2 ⊢
    omega
/-! ### what a def does -/
inductive FR where
  | ret (o : O) (outs : List O)
  | exc (x : Ex) (outs : List O)
  | bad
def FOk (k : Kc) (e : Ent) (ws : List V) (Q : VK) (E : XK) : FR → Prop
  | .ret o outs => ∀ v H', (∃ F' S', Owns k F' H' (v :: ws) (o :: outs) S' ∧ Fr e F' H' S') → Q v H'
  | .exc x outs => ∀ c d H', (∃ F' S', Owns k F' H' ws outs S' ∧ Fr e F' H' S' ∧ XRep k F' H' x c d) → E c d H'
  | .bad => False
def spM (k : Kc) (n : Nat) (f : List O → FR) : Sp := fun ws H Q E => ws.length = n ∧ ∃ F os S, Owns k F H ws os S ∧ Fr ⟨F, H, S⟩ F H S ∧ FOk k ⟨F, H, S⟩ ws Q E (f os)
def mCall (f : List O → FR) (as : List (Option Nat)) (ma : M (List O)) : M O := fun ρ => match ma ρ with
  | .ok xs ρ1 => match fillA as xs ρ1 with
    | none => .bad
    | some z => match f z.1 with
      | .ret o outs => .ok o (backA as outs z.2)
      | .exc x outs => .exc x (backA as outs z.2)
      | .bad => .bad
  | .exc x ρ1 => .exc x ρ1
  | .bad => .bad
theorem tem_call {k : Kc} {E : XK} {tl : TA} {as : List (Option Nat)} {ma : M (List O)} {n : Nat} {f : List O → FR} (hn : as.length = n) (h : TAm k E tl as ma) : TEm k E (tCall (spM k n f) [] E tl) (mCall f as ma) := by
  intro P e σ ρ vs os H Q s g
  refine h P e σ ρ vs os H _ s ?_
  unfold mCall at g
  cases e1 : ma ρ with
  | bad => rw [e1] at g; exact g
  | exc x ρ1 => rw [e1] at g; exact g
  | ok xs ρ1 =>
    rw [e1] at g
    simp only at g
    intro ws H1 s1 hl hr
    cases e2 : fillA as xs ρ1 with
    | none => rw [e2] at g; exact g.elim
    | some z =>
      obtain ⟨ys, ρ2⟩ := z
      rw [e2] at g
      simp only at g
      obtain ⟨F, S1, S2, env, tmp, fr, pin⟩ := s1
      obtain ⟨A, B, eS, o1, o2⟩ := Owns.split hl tmp
      subst eS
      obtain ⟨S1', A', h1, h2, h3⟩ := fill_ok env o1 hr e2
      have fr' : Fr e F H1 (A' ++ (S1' ++ B)) := Sbp.fr fr (.of_count fun a => by
        have := h3.count a
        simp only [List.count_append] at this ⊢
        omega)
      have lens : ∀ {as : List (Option Nat)} {ws : List V}, RefsAt σ as ws → ws.length = as.length := by
        intro as
        induction as with
        | nil =>
          intro ws z
          cases ws with
          | nil => rfl
          | cons _ _ => exact z.elim
        | cons a as ih =>
          intro ws z
          cases ws with
          | nil => cases a <;> exact z.elim
          | cons w ws =>
            cases a with
            | none => exact congrArg (· + 1) (ih (show RefsAt σ as ws from z))
            | some i => exact congrArg (· + 1) (ih z.2)
      rw [List.append_nil]
      refine ⟨by rw [lens hr]; exact hn, F, ys, A', h2, (fr'.sub (List.sublist_append_left _ _)).refl, ?_⟩
      cases e3 : f ys with
      | bad => rw [e3] at g; exact g
      | ret o outs =>
        rw [e3] at g
        simp only at g
        intro v H' z
        obtain ⟨F', S', p1, p2⟩ := z
        obtain ⟨p3, p4⟩ := fr'.call p2
        cases p1 with
        | @cons _ _ _ _ T U w r =>
          obtain ⟨S'', q1, q2⟩ := back_ok (h1.mono p2.f0 p4.left) r hr
          refine g v H' ⟨F', S'', T ++ B, q1, .cons w (o2.mono p2.f0 p4.right), Sbp.fr p3 (.of_count fun a => ?_), pin⟩
          have := q2.count a
          simp only [List.count_append] at this ⊢
          omega
      | exc x outs =>
        rw [e3] at g
        simp only at g
        intro c d H' z
        obtain ⟨F', S', p1, p2, p5⟩ := z
        obtain ⟨p3, p4⟩ := fr'.call p2
        obtain ⟨S'', q1, q2⟩ := back_ok (h1.mono p2.f0 p4.left) p1 hr
        refine g c d H' ⟨F', S'', B, ⟨q1, o2.mono p2.f0 p4.right, Sbp.fr p3 (.of_count fun a => ?_), pin⟩, p5⟩
        have := q2.count a
        simp only [List.count_append] at this ⊢
        omega
/-! ### quiet defs: data in, data out -/
abbrev QF := List PD → Option PD
def spQ (k : Kc) (n : Nat) (q : QF) : Sp := fun ws H Q E => ws.length = n ∧ ∃ F ds d, Reps k.K F ws ds ∧ FLe F H ∧ q ds = some d ∧ ∀ v F' H', Xt F H F' H' → Rep k.K F' v d → Q v H'
def qOf (f : List O → FR) : QF := fun ds => match f (ds.map .fz) with
  | .ret o _ => toPD o
  | _ => none
theorem Reps.owns {k : Kc} {F H : Hp} : ∀ {vs : List V} {ds : List PD}, Reps k.K F vs ds → Owns k F H vs (ds.map .fz) []
  | _, _, .nil => .nil
  | _, _, .cons h r => .cons (.fz h) (Reps.owns r)
theorem spQ.imp {k : Kc} {n : Nat} {f : List O → FR} {ws : List V} {H : Hp} {Q : VK} {E : XK} (h : spQ k n (qOf f) ws H Q E) : spM k n f ws H Q E := by
  obtain ⟨hn, F, ds, d, r, fl, e, q⟩ := h
  refine ⟨hn, F, ds.map .fz, [], r.owns, ⟨fl, .nil, (fun a m => by cases m), (fun a m => by cases m), (fun a m => by cases m), (fun a m => by cases m), Same.refl _, fun a u z => .inl (by show F a ≠ none; rw [z]; simp), fun _ _ z _ => z, fun _ n => n⟩, ?_⟩
  unfold qOf at e
  split at e
  · rename_i o outs e1
    rw [e1]
    intro v H' z
    obtain ⟨F', S', p1, p2⟩ := z
    cases p1 with
    | @cons _ _ _ _ T U w r =>
      have off : ∀ a ∈ T, F' a = none := fun a m => p2.off a (List.mem_append_left _ m)
      refine q v (over F' H' T) H' ⟨fun a u z => p2.keep a u z (by simp), p2.f0.trans (over_sub off), over_le p2.fle, fun a u z => ?_⟩ (w.freeze off e)
      have z2 := z
      rcases over_fresh z with z | z
      · rcases p2.fnew a u z with y | y | y
        · cases w : F a with
          | none => exact absurd w y
          | some t =>
            have := p2.f0 a t w
            rw [z] at this
            exact .inl (by rw [this])
        · cases y
        · exact .inr y
      · rcases p2.own a (List.mem_append_left _ z) with y | y
        · cases y
        · exact .inr y
  · cases e
mutual
def imm : PD → Bool
  | .none => true
  | .bool _ => true
  | .int _ => true
  | .str _ => true
  | .tuple ds => imms ds
  | .list _ => false
  | .dict _ => false
def imms : List PD → Bool
  | [] => true
  | d :: ds => imm d && imms ds
end
mutual
theorem Rep.imm {K : Frag} {F G : Hp} (s : ∀ a vs, F a = some (.tup vs) → G a = some (.tup vs)) : ∀ {v : V} {d : PD}, Rep K F v d → FM.imm d = true → Rep K G v d
  | _, _, .non, _ => .non
  | _, _, .bl b, _ => .bl b
  | _, _, .int i, _ => .int i
  | _, _, .str x, _ => .str x
  | _, _, .lst h r, e => by simp [FM.imm] at e
  | _, _, .tup h r, e => .tup (s _ _ h) (Reps.imm s r (by simpa [FM.imm] using e))
  | _, _, .dic h r e1, e => by subst e1; simp [FM.imm] at e
  | _, _, .dit h r e1, e => by subst e1; simp [FM.imm] at e
theorem Reps.imm {K : Frag} {F G : Hp} (s : ∀ a vs, F a = some (.tup vs) → G a = some (.tup vs)) : ∀ {v : List V} {d : List PD}, Reps K F v d → FM.imms d = true → Reps K G v d
  | _, _, .nil, _ => .nil
  | _, _, .cons h r, e => by
    have e' : _ ∧ _ := Bool.and_eq_true_iff.mp (by simpa only [FM.imms] using e)
    exact .cons (Rep.imm s h e'.1) (Reps.imm s r e'.2)
end
/-! lists and dicts of one's own, without tuples -/
mutual
def flatO : O → Bool
  | .fz _ => true
  | .lst _ => true
  | .dic _ => true
  | .dit _ => true
  | .nst os => flatOs os
  | .ntp _ => false
  | .ndc _ => false
  | .ins _ _ => false
  | .ktp _ => false
  | .dead => true
def flatOs : List O → Bool
  | [] => true
  | o :: os => flatO o && flatOs os
end
theorem rd_notup {H : Hp} {a : Addr} {u : HO} (h : Rd H a u) (hu : ∀ vs, u ≠ .tup vs) : ∀ vs, H a ≠ some (.tup vs) := fun vs z => by
  rcases h with h | ⟨o, h⟩
  · rw [h] at z; cases z; exact hu vs rfl
  · rw [h] at z; cases z
mutual
theorem Own.notup {k : Kc} {F H : Hp} : ∀ {v : V} {o : O} {S : List Addr}, Own k F H v o S → flatO o = true → ∀ a ∈ S, ∀ vs, H a ≠ some (.tup vs)
  | _, _, _, .fz _, _, a, m => by cases m
  | _, _, _, .lst h _, _, a, m => by rw [List.mem_singleton.mp m]; exact rd_notup h fun _ z => by cases z
  | _, _, _, .dic h _, _, a, m => by rw [List.mem_singleton.mp m]; exact rd_notup h fun _ z => by cases z
  | _, _, _, .dit h _, _, a, m => by rw [List.mem_singleton.mp m]; exact rd_notup h fun _ z => by cases z
  | _, _, _, .nst h r, e, a, m => by
    rcases List.mem_cons.mp m with e1 | m
    · rw [e1]; exact rd_notup h fun _ z => by cases z
    · exact Owns.notup r (by simpa [flatO] using e) a m
  | _, _, _, .ntp _ _, e, a, m => by simp [flatO] at e
  | _, _, _, .ndc _ _, e, a, m => by simp [flatO] at e
  | _, _, _, .ins _ _, e, a, m => by simp [flatO] at e
  | _, _, _, .ktp _ _, e, a, m => by cases m
  | _, _, _, .dead, _, a, m => by cases m
theorem Owns.notup {k : Kc} {F H : Hp} : ∀ {v : List V} {o : List O} {S : List Addr}, Owns k F H v o S → flatOs o = true → ∀ a ∈ S, ∀ vs, H a ≠ some (.tup vs)
  | _, _, _, .nil, _, a, m => by cases m
  | _, _, _, .cons h r, e, a, m => by
    have e' : _ ∧ _ := Bool.and_eq_true_iff.mp (by simpa only [flatOs] using e)
    exact (List.mem_append.mp m).elim (Own.notup h e'.1 a) (Owns.notup r e'.2 a)
end
def qCall (q : QF) (r : List O → Option (List O)) : QE := fun ρ => match r ρ with
  | none => none
  | some os => match fzs os with
    | some ds => (q ds).map .fz
    | none => if flatOs os then match toPDs os with
      | none => none
      | some ds => match q ds with
        | none => none
        | some d => if imm d then some (.fz d) else none
      else none
theorem Vws.length {k : Kc} {F H : Hp} {S : List Addr} : ∀ {vs : List V} {os : List O}, Vws k F H S vs os → vs.length = os.length
  | _, _, .nil => rfl
  | _, _, .cons _ r => congrArg (· + 1) (Vws.length r)
theorem fzs_length : ∀ {os : List O} {ds : List PD}, fzs os = some ds → os.length = ds.length
  | [], ds, e => by
    have e' := Option.some.inj e
    subst e'
    rfl
  | .fz d :: r, ds, e => by
    obtain ⟨z, e1, e2⟩ := Option.map_eq_some_iff.mp (show (fzs r).map (fun z => d :: z) = some ds from e)
    subst e2
    simp [fzs_length e1]
  | .lst _ :: _, _, e => by cases e
  | .dic _ :: _, _, e => by cases e
  | .dit _ :: _, _, e => by cases e
  | .nst _ :: _, _, e => by cases e
  | .ntp _ :: _, _, e => by cases e
  | .ndc _ :: _, _, e => by cases e
  | .ins _ _ :: _, _, e => by cases e
  | .ktp _ :: _, _, e => by cases e
  | .dead :: _, _, e => by cases e
/-- views of lists and dicts: together what they lean on -/
theorem Vws.flat {k : Kc} {F H : Hp} {S : List Addr} (off : ∀ a ∈ S, F a = none) : ∀ {vs : List V} {os : List O} {ds : List PD}, Vws k F H S vs os → flatOs os = true → toPDs os = some ds → ∃ T : List Addr, (∀ a ∈ T, a ∈ S) ∧ (∀ a ∈ T, ∀ vs, H a ≠ some (.tup vs)) ∧ (∀ U : List Addr, (∀ a ∈ T, a ∈ U) → (∀ a ∈ U, a ∈ S) → Reps k.K (over F H U) vs ds)
  | _, _, _, .nil, _, e => by
    have e' := Option.some.inj e
    subst e'
    exact ⟨[], (fun a m => by cases m), (fun a m => by cases m), fun _ _ _ => .nil⟩
  | _, _, _, .cons (o := o) (os := os) w ws, fl, e => by
    have fl' : _ ∧ _ := Bool.and_eq_true_iff.mp (by simpa only [flatOs] using fl)
    unfold toPDs at e
    cases q1 : toPD o with
    | none => rw [q1] at e; cases e
    | some d =>
      cases q2 : toPDs os with
      | none => rw [q1, q2] at e; cases e
      | some ds =>
        rw [q1, q2] at e
        have e' := Option.some.inj e
        subst e'
        obtain ⟨T1, m1, w1⟩ := w
        obtain ⟨T2, m2, n2, r2⟩ := Vws.flat off ws fl'.2 q2
        refine ⟨T1 ++ T2, fun a z => (List.mem_append.mp z).elim (m1 a) (m2 a), fun a z => (List.mem_append.mp z).elim (Own.notup w1 fl'.1 a) (n2 a), fun U h1 h2 => ?_⟩
        refine .cons ?_ (r2 U (fun a z => h1 a (List.mem_append_right _ z)) h2)
        exact own_fz (T := U) (over_sub fun a z => off a (h2 a z)) (fun a u m r => over_rd m r) (fun a vs m r => by rw [over_in m]; exact r) (fun a z => h1 a (List.mem_append_left _ z)) w1 q1
theorem tev_call {k : Kc} {E : XK} {tl : TA} {qs : List O → Option (List O)} {n : Nat} {q : QF} (hn : ∀ ρ os, qs ρ = some os → os.length = n) (h : TAv k tl qs) : TEv k (tCall (spQ k n q) [] E tl) (qCall q qs) := by
  intro F H σ ρ S o Q qst e g
  unfold qCall at e
  cases e1 : qs ρ with
  | none => rw [e1] at e; cases e
  | some os =>
    rw [e1] at e
    simp only at e
    refine h F H σ ρ S os _ qst e1 fun ws F1 H1 x1 w1 => ?_
    have q1 := qst.xt x1
    rw [List.append_nil]
    refine ⟨by rw [w1.length]; exact hn ρ os e1, ?_⟩
    cases e2 : fzs os with
    | some ds =>
      rw [e2] at e
      obtain ⟨d, e3, e4⟩ := Option.map_eq_some_iff.mp e
      subst e4
      exact ⟨F1, ds, d, w1.fzs e2, x1.fle, e3, fun v F' H' x r => g v F' H' (x1.trans x) (.fz r)⟩
    | none =>
      rw [e2] at e
      simp only at e
      split at e
      · rename_i fl
        cases e3 : toPDs os with
        | none => rw [e3] at e; cases e
        | some ds =>
          rw [e3] at e
          simp only at e
          cases e4 : q ds with
          | none => rw [e4] at e; cases e
          | some d =>
            rw [e4] at e
            simp only at e
            split at e
            · rename_i im
              have e' := Option.some.inj e
              subst e'
              obtain ⟨T, mT, nT, rT⟩ := w1.flat q1.off fl e3
              have offT : ∀ a ∈ T, F1 a = none := fun a z => q1.off a (mT a z)
              refine ⟨over F1 H1 T, ds, d, rT T (fun _ z => z) mT, over_le x1.fle, e4, fun v F' H' x r => ?_⟩
              let G : Hp := fun a => if a ∈ T then none else F' a
              have gout : ∀ {a : Addr}, a ∉ T → G a = F' a := fun n => if_neg n
              have hT : ∀ a ∈ T, ∃ u, H1 a = some u := fun a z => by
                cases w : H1 a with
                | none => exact absurd w (q1.env.there a (mT a z))
                | some u => exact ⟨u, rfl⟩
              refine g v G H' (x1.trans ⟨x.ex, fun a u z => ?_, fun a u z => ?_, fun a u z => ?_⟩) (.fz (r.imm (fun a vs z => ?_) im))
              · have n : a ∉ T := fun m => by rw [offT a m] at z; cases z
                rw [gout n]
                exact x.sub a u (by rw [over_out n]; exact z)
              · by_cases n : a ∈ T
                · have : G a = none := if_pos n
                  rw [this] at z; cases z
                · rw [gout n] at z
                  exact x.fle a u z
              · by_cases n : a ∈ T
                · have : G a = none := if_pos n
                  rw [this] at z; cases z
                · rw [gout n] at z
                  rcases x.fresh a u z with y | y
                  · rw [over_out n] at y; exact .inl y
                  · exact .inr y
              · have n : a ∉ T := fun m => by
                  obtain ⟨u, hu⟩ := hT a m
                  have := x.sub a u (by rw [over_in m]; exact hu)
                  rw [z] at this
                  cases this
                  exact nT a m vs hu
                rw [gout n]
                exact z
            · cases e
      · cases e
end FM
namespace FM
open PySem L2 PyProof.Rows
/-! ### statements -/
inductive RS where
  | next (ρ : List O)
  | ret (o : O) (ρ : List O)
  | brk (ρ : List O)
  | cont (ρ : List O)
  | exc (x : Ex) (ρ : List O)
  | bad
abbrev MS := List O → RS
def SOk (k : Kc) (P : List (Nat × V)) (e : Ent) (vs : List V) (os : List O) (E : XK) (D : Ends) : RS → Prop
  | .next ρ => ∀ σ H, St k P e σ ρ vs os H → D.nx σ H
  | .ret o ρ => ∀ σ v H, St k P e σ ρ (v :: vs) (o :: os) H → D.rt v H
  | .brk ρ => ∀ σ H, St k P e σ ρ vs os H → D.bk σ H
  | .cont ρ => ∀ σ H, St k P e σ ρ vs os H → D.ct σ H
  | .exc x ρ => ∀ σ c d H, StX k P e σ ρ vs os x c d H → E c d H
  | .bad => False
def Off (P : List (Nat × V)) (A : List Nat) : Prop := ∀ p ∈ P, p.1 ∉ A
theorem Off.l {P : List (Nat × V)} {A B : List Nat} (h : Off P (A ++ B)) : Off P A := fun p m z => h p m (List.mem_append_left _ z)
theorem Off.r {P : List (Nat × V)} {A B : List Nat} (h : Off P (A ++ B)) : Off P B := fun p m z => h p m (List.mem_append_right _ z)
def TSm (k : Kc) (E : XK) (A : List Nat) (t : TS) (m : MS) : Prop := ∀ (P : List (Nat × V)) (e : Ent) (σ : L2.St) (ρ : List O) (vs : List V) (os : List O) (H : Hp) (D : Ends), Off P A → St k P e σ ρ vs os H →
  SOk k P e vs os E D (m ρ) → t D σ H
def sNext : MS := fun ρ => .next ρ
def sSeq (a b : MS) : MS := fun ρ => match a ρ with
  | .next ρ1 => b ρ1
  | r => r
def sBrk : MS := fun ρ => .brk ρ
def sCont : MS := fun ρ => .cont ρ
def sNever : MS := fun _ => .bad
def sDrop (m : M O) : MS := fun ρ => match m ρ with
  | .ok _ ρ1 => .next ρ1
  | .exc x ρ1 => .exc x ρ1
  | .bad => .bad
def sRet (m : M O) : MS := fun ρ => match m ρ with
  | .ok o ρ1 => .ret o ρ1
  | .exc x ρ1 => .exc x ρ1
  | .bad => .bad
def sRetN : MS := fun ρ => .ret (.fz .none) ρ
def sSet (j : Nat) (m : M O) : MS := fun ρ => match m ρ with
  | .ok o ρ1 => .next (ρ1.set j o)
  | .exc x ρ1 => .exc x ρ1
  | .bad => .bad
def sAsg (f : QG) (m : M O) : MS := fun ρ => match m ρ with
  | .ok (.fz d) ρ1 => match f d ρ1 with
    | some ρ2 => .next ρ2
    | none => .bad
  | .ok _ _ => .bad
  | .exc x ρ1 => .exc x ρ1
  | .bad => .bad
def sPar (i j : Nat) (m : M (List O)) : MS := fun ρ => match m ρ with
  | .ok [o1, o2] ρ1 => .next ((ρ1.set i o1).set j o2)
  | .ok _ _ => .bad
  | .exc x ρ1 => .exc x ρ1
  | .bad => .bad
def sPar3 (i j l : Nat) (m : M (List O)) : MS := fun ρ => match m ρ with
  | .ok [o1, o2, o3] ρ1 => .next (((ρ1.set i o1).set j o2).set l o3)
  | .ok _ _ => .bad
  | .exc x ρ1 => .exc x ρ1
  | .bad => .bad
def sIf (c : M Bool) (a b : MS) : MS := fun ρ => match c ρ with
  | .ok true ρ1 => a ρ1
  | .ok false ρ1 => b ρ1
  | .exc x ρ1 => .exc x ρ1
  | .bad => .bad
def bLift (q : List O → Option Bool) : M Bool := fun ρ => match q ρ with
  | some b => .ok b ρ
  | none => .bad
/-- where a state's end is stored: one takes the top -/
theorem St.store {k : Kc} {P : List (Nat × V)} {e : Ent} {σ : L2.St} {ρ : List O} {vs : List V} {os : List O} {H : Hp} {v : V} {o : O} {j : Nat} (s : St k P e σ ρ (v :: vs) (o :: os) H) (hj : Off P [j]) : St k P e (σ.set j (some v)) (ρ.set j o) vs os H := by
  obtain ⟨F, S1, S2, env, tmp, fr, pin⟩ := s
  have pin' : ∀ p ∈ P, (σ.set j (some v))[p.1]? = some (some p.2) := fun p m => by
    rw [List.getElem?_set_ne (fun z => hj p m (by rw [z]; exact List.mem_cons_self))]
    exact pin p m
  cases tmp with
  | @cons _ _ _ _ T U w r =>
    rcases Envs.setO w j env with ⟨S', m, U', p, q⟩ | ⟨S', m, q⟩
    · refine ⟨F, U', U, q, r, Sbp.fr fr (.of_count fun a => ?_), pin'⟩
      have c1 := p.count_eq a
      have c2 := m.count_le a
      simp only [List.count_append] at c1 ⊢
      omega
    · refine ⟨F, S', U, q, r, Sbp.fr fr (.of_count fun a => ?_), pin'⟩
      have c2 := m.count_le a
      simp only [List.count_append]
      omega
section
variable {k : Kc} {E : XK} {te : TE} {m m1 m2 : M O} {t u : TS} {a b : MS} {A B : List Nat} {tc : TT}
theorem tsm_next : TSm k E [] tNext sNext := fun P e σ ρ vs os H D _ s g => g σ H s
theorem tsm_brk : TSm k E [] tBreak sBrk := fun P e σ ρ vs os H D _ s g => g σ H s
theorem tsm_cont : TSm k E [] tCont sCont := fun P e σ ρ vs os H D _ s g => g σ H s
theorem tsm_never : TSm k E [] tNever sNever := fun P e σ ρ vs os H D _ s g => g
theorem tsm_seq (h1 : TSm k E A t a) (h2 : TSm k E B u b) : TSm k E (A ++ B) (tSeq t u) (sSeq a b) := by
  intro P e σ ρ vs os H D o s g
  refine h1 P e σ ρ vs os H _ o.l s ?_
  unfold sSeq at g
  cases e1 : a ρ with
  | next ρ1 =>
    rw [e1] at g
    intro σ1 H1 s1
    exact h2 P e σ1 ρ1 vs os H1 D o.r s1 g
  | ret o ρ1 => rw [e1] at g; exact g
  | brk ρ1 => rw [e1] at g; exact g
  | cont ρ1 => rw [e1] at g; exact g
  | exc x ρ1 => rw [e1] at g; exact g
  | bad => rw [e1] at g; exact g
theorem SOk.exc {P : List (Nat × V)} {e : Ent} {σ : L2.St} {vs : List V} {os : List O} {D : Ends} {x : Ex} {ρ : List O} (g : SOk k P e vs os E D (.exc x ρ)) : ∀ c d H, StX k P e σ ρ vs os x c d H → E c d H := fun c d H s => g σ c d H s
theorem tsm_drop (h : TEm k E te m) : TSm k E [] (tDrop te) (sDrop m) := by
  intro P e σ ρ vs os H D o s g
  refine h P e σ ρ vs os H _ s ?_
  unfold sDrop at g
  cases e1 : m ρ with
  | ok x ρ1 => rw [e1] at g; exact fun v H1 s1 => g σ H1 s1.pop
  | exc x ρ1 => rw [e1] at g; exact g.exc
  | bad => rw [e1] at g; exact g
theorem tsm_ret (h : TEm k E te m) : TSm k E [] (tRet te) (sRet m) := by
  intro P e σ ρ vs os H D o s g
  refine h P e σ ρ vs os H _ s ?_
  unfold sRet at g
  cases e1 : m ρ with
  | ok x ρ1 => rw [e1] at g; exact fun v H1 s1 => g σ v H1 s1
  | exc x ρ1 => rw [e1] at g; exact g.exc
  | bad => rw [e1] at g; exact g
theorem tsm_retN : TSm k E [] tRetN sRetN := by
  intro P e σ ρ vs os H D o s g
  obtain ⟨F, S1, S2, env, tmp, fr, pin⟩ := s
  exact g σ .non H ⟨F, S1, [] ++ S2, env, .cons (.fz .non) tmp, fr, pin⟩
theorem tsm_set {j : Nat} (h : TEm k E te m) : TSm k E [j] (tAsg te (gName j)) (sSet j m) := by
  intro P e σ ρ vs os H D o s g
  refine h P e σ ρ vs os H _ s ?_
  unfold sSet at g
  cases e1 : m ρ with
  | ok x ρ1 => rw [e1] at g; exact fun v H1 s1 => g _ H1 (s1.store o)
  | exc x ρ1 => rw [e1] at g; exact g.exc
  | bad => rw [e1] at g; exact g
theorem St.target {P : List (Nat × V)} {e : Ent} {σ : L2.St} {ρ ρ' : List O} {vs : List V} {os : List O} {H : Hp} {v : V} {d : PD} {g : TG} {f : QG} {J : List Nat} {Q : L2.St → Hp → Prop} (hg : TGq k g f J) (s : St k P e σ ρ (v :: vs) (.fz d :: os) H) (o : Off P J) (e1 : f d ρ = some ρ') (q : ∀ σ', St k P e σ' ρ' vs os H → Q σ' H) : g v σ H Q := by
  obtain ⟨F, S1, S2, s⟩ := s
  obtain ⟨r, s2⟩ := s.top
  refine hg F H σ ρ ρ' S1 v d Q s2.qs r e1 fun σ' S' q' m' ag => q σ' ⟨F, S', S2, q'.env, s2.tmp, s2.fr.sub (List.Sublist.append m' (.refl _)), fun p m => ?_⟩
  rw [ag.at_ p.1 (o p m)]
  exact s2.pin p m
theorem tsm_asg {g : TG} {f : QG} {J : List Nat} (hg : TGq k g f J) (h : TEm k E te m) : TSm k E J (tAsg te g) (sAsg f m) := by
  intro P e σ ρ vs os H D o s g'
  refine h P e σ ρ vs os H _ s ?_
  unfold sAsg at g'
  cases e1 : m ρ with
  | ok x ρ1 =>
    rw [e1] at g'
    intro v H1 s1
    cases x with
    | fz d =>
      simp only at g'
      cases e2 : f d ρ1 with
      | none => rw [e2] at g'; exact g'.elim
      | some ρ2 =>
        rw [e2] at g'
        exact St.target hg s1 o e2 fun σ' s2 => g' σ' H1 s2
    | _ => exact g'.elim
  | exc x ρ1 => rw [e1] at g'; exact g'.exc
  | bad => rw [e1] at g'; exact g'
theorem St.swap {P : List (Nat × V)} {e : Ent} {σ : L2.St} {ρ : List O} {vs : List V} {os : List O} {H : Hp} {v w : V} {x y : O} (s : St k P e σ ρ (v :: w :: vs) (x :: y :: os) H) : St k P e σ ρ (w :: v :: vs) (y :: x :: os) H := by
  obtain ⟨F, S1, S2, env, tmp, fr, pin⟩ := s
  cases tmp with
  | @cons _ _ _ _ T U w1 r =>
    cases r with
    | @cons _ _ _ _ T2 U2 w2 r =>
      refine ⟨F, S1, T2 ++ (T ++ U2), env, .cons w2 (.cons w1 r), Sbp.fr fr (.of_count fun a => ?_), pin⟩
      simp only [List.count_append]
      omega
theorem tsm_par {i j : Nat} {ta : TA} {as : List (Option Nat)} {m : M (List O)} (h : TAm k E ta as m) : TSm k E [i, j] (tPar i j ta) (sPar i j m) := by
  intro P e σ ρ vs os H D o s g
  refine h P e σ ρ vs os H _ s ?_
  unfold sPar at g
  cases e1 : m ρ with
  | ok xs ρ1 =>
    rw [e1] at g
    intro ws H1 s1 hl _
    split at g
    · rename_i o1 o2 ρ2 e2
      cases e2
      match ws, hl with
      | [v, w], _ =>
        have s1 : St k P e σ ρ1 (v :: w :: vs) (o1 :: o2 :: os) H1 := s1
        exact ⟨v, w, rfl, g _ H1 ((s1.store fun p m z => o p m (by rw [List.mem_singleton.mp z]; simp)).store fun p m z => o p m (by rw [List.mem_singleton.mp z]; simp))⟩
    · exact g.elim
    · rename_i e2; cases e2
    · rename_i e2; cases e2
  | exc x ρ1 => rw [e1] at g; exact g.exc
  | bad => rw [e1] at g; exact g
end
end FM
namespace FM
open PySem L2 PyProof.Rows
section
variable {k : Kc} {E : XK} {te : TE} {m m1 m2 : M O} {t u : TS} {a b : MS} {A B : List Nat} {tc : TT}
theorem tsm_par3 {i j l : Nat} {ta : TA} {as : List (Option Nat)} {m : M (List O)} (h : TAm k E ta as m) : TSm k E [i, j, l] (tPar3 i j l ta) (sPar3 i j l m) := by
  intro P e σ ρ vs os H D o s g
  refine h P e σ ρ vs os H _ s ?_
  unfold sPar3 at g
  cases e1 : m ρ with
  | ok xs ρ1 =>
    rw [e1] at g
    intro ws H1 s1 hl _
    split at g
    · rename_i o1 o2 o3 ρ2 e2
      cases e2
      match ws, hl with
      | [v, w, z], _ =>
        have s1 : St k P e σ ρ1 (v :: w :: z :: vs) (o1 :: o2 :: o3 :: os) H1 := s1
        exact ⟨v, w, z, rfl, g _ H1 (((s1.store fun p m z => o p m (by rw [List.mem_singleton.mp z]; simp)).store fun p m z => o p m (by rw [List.mem_singleton.mp z]; simp)).store fun p m z => o p m (by rw [List.mem_singleton.mp z]; simp))⟩
    · exact g.elim
    · rename_i e2; cases e2
    · rename_i e2; cases e2
  | exc x ρ1 => rw [e1] at g; exact g.exc
  | bad => rw [e1] at g; exact g
theorem ttm_lift {q : List O → Option Bool} (h : TTv k tc q) : TTm k E tc (bLift q) := by
  intro P e σ ρ vs os H Q s g
  obtain ⟨F, S1, S2, s⟩ := s
  unfold bLift at g
  cases e1 : q ρ with
  | none => rw [e1] at g; exact g.elim
  | some b =>
    rw [e1] at g
    exact h F H σ ρ S1 b Q s.qs e1 fun F' H' x => g H' ⟨F', S1, S2, s.xt x⟩
def bTest (m : M O) : M Bool := fun ρ => match m ρ with
  | .ok (.fz (.bool b)) ρ1 => .ok b ρ1
  | .ok _ _ => .bad
  | .exc x ρ1 => .exc x ρ1
  | .bad => .bad
theorem St.bool {P : List (Nat × V)} {e : Ent} {σ : L2.St} {ρ : List O} {vs : List V} {os : List O} {H : Hp} {v : V} {b : Bool} (s : St k P e σ ρ (v :: vs) (.fz (.bool b) :: os) H) : v = .bl b ∧ St k P e σ ρ vs os H := by
  obtain ⟨F, S1, S2, s⟩ := s
  obtain ⟨r, s2⟩ := s.top
  refine ⟨?_, F, S1, S2, s2⟩
  cases r with
  | bl => rfl
  | dic _ _ e => cases e
  | dit _ _ e => cases e
theorem ttm_test (h : TEm k E te m) : TTm k E (tTest te) (bTest m) := by
  intro P e σ ρ vs os H Q s g
  refine h P e σ ρ vs os H _ s ?_
  unfold bTest at g
  cases e1 : m ρ with
  | ok x ρ1 =>
    rw [e1] at g
    intro v H1 s1
    split at g
    · rename_i b ρ2 e2
      cases e2
      obtain ⟨ev, s2⟩ := s1.bool
      exact ⟨b, ev, g H1 s2⟩
    · exact g.elim
    · rename_i e2; cases e2
    · rename_i e2; cases e2
  | exc x ρ1 => rw [e1] at g; exact g
  | bad => rw [e1] at g; exact g
theorem ttm_B (h : TEm k E te m) : TTm k E (tB te) (bTest m) := by
  intro P e σ ρ vs os H Q s g
  refine h P e σ ρ vs os H _ s ?_
  unfold bTest at g
  cases e1 : m ρ with
  | ok x ρ1 =>
    rw [e1] at g
    intro v H1 s1
    split at g
    · rename_i b ρ2 e2
      cases e2
      obtain ⟨ev, s2⟩ := s1.bool
      exact ⟨b, ev, g H1 s2⟩
    · exact g.elim
    · rename_i e2; cases e2
    · rename_i e2; cases e2
  | exc x ρ1 => rw [e1] at g; exact g
  | bad => rw [e1] at g; exact g
def bAnd (c d : M Bool) : M Bool := fun ρ => match c ρ with
  | .ok true ρ1 => d ρ1
  | r => r
def bOr (c d : M Bool) : M Bool := fun ρ => match c ρ with
  | .ok false ρ1 => d ρ1
  | r => r
def bNot (c : M Bool) : M Bool := fun ρ => match c ρ with
  | .ok b ρ1 => .ok (!b) ρ1
  | r => r
theorem ttm_and {t1 t2 : TT} {c d : M Bool} (h1 : TTm k E t1 c) (h2 : TTm k E t2 d) : TTm k E (tAnd t1 t2) (bAnd c d) := by
  intro P e σ ρ vs os H Q s g
  refine h1 P e σ ρ vs os H _ s ?_
  unfold bAnd at g
  cases e1 : c ρ with
  | ok x ρ1 =>
    rw [e1] at g
    intro H1 s1
    cases x with
    | true => rw [if_pos rfl]; exact h2 P e σ ρ1 vs os H1 Q s1 g
    | false => rw [if_neg (by decide)]; exact g H1 s1
  | exc x ρ1 => rw [e1] at g; exact g
  | bad => rw [e1] at g; exact g
theorem ttm_or {t1 t2 : TT} {c d : M Bool} (h1 : TTm k E t1 c) (h2 : TTm k E t2 d) : TTm k E (tOr t1 t2) (bOr c d) := by
  intro P e σ ρ vs os H Q s g
  refine h1 P e σ ρ vs os H _ s ?_
  unfold bOr at g
  cases e1 : c ρ with
  | ok x ρ1 =>
    rw [e1] at g
    intro H1 s1
    cases x with
    | false => rw [if_neg (by decide)]; exact h2 P e σ ρ1 vs os H1 Q s1 g
    | true => rw [if_pos rfl]; exact g H1 s1
  | exc x ρ1 => rw [e1] at g; exact g
  | bad => rw [e1] at g; exact g
theorem ttm_not {t1 : TT} {c : M Bool} (h1 : TTm k E t1 c) : TTm k E (tNot t1) (bNot c) := by
  intro P e σ ρ vs os H Q s g
  refine h1 P e σ ρ vs os H _ s ?_
  unfold bNot at g
  cases e1 : c ρ with
  | ok x ρ1 =>
    rw [e1] at g
    exact fun H1 s1 => g H1 s1
  | exc x ρ1 => rw [e1] at g; exact g
  | bad => rw [e1] at g; exact g
/-- values by and, or, not, if with effects -/
def mIf (c : M Bool) (a b : M O) : M O := fun ρ => match c ρ with
  | .ok true ρ1 => a ρ1
  | .ok false ρ1 => b ρ1
  | .exc x ρ1 => .exc x ρ1
  | .bad => .bad
theorem tem_if {ta tb : TE} {c : M Bool} (hc : TTm k E tc c) (h1 : TEm k E ta m1) (h2 : TEm k E tb m2) : TEm k E (tIf tc ta tb) (mIf c m1 m2) := by
  intro P e σ ρ vs os H Q s g
  refine hc P e σ ρ vs os H _ s ?_
  unfold mIf at g
  cases e1 : c ρ with
  | ok x ρ1 =>
    rw [e1] at g
    intro H1 s1
    cases x with
    | true => rw [if_pos rfl]; exact h1 P e σ ρ1 vs os H1 Q s1 g
    | false => rw [if_neg (by decide)]; exact h2 P e σ ρ1 vs os H1 Q s1 g
  | exc x ρ1 => rw [e1] at g; exact g
  | bad => rw [e1] at g; exact g
def mAnd (a b : M O) : M O := fun ρ => match a ρ with
  | .ok (.fz (.bool true)) ρ1 => b ρ1
  | .ok (.fz (.bool false)) ρ1 => .ok (.fz (.bool false)) ρ1
  | .ok _ _ => .bad
  | .exc x ρ1 => .exc x ρ1
  | .bad => .bad
def mOr (a b : M O) : M O := fun ρ => match a ρ with
  | .ok (.fz (.bool false)) ρ1 => b ρ1
  | .ok (.fz (.bool true)) ρ1 => .ok (.fz (.bool true)) ρ1
  | .ok _ _ => .bad
  | .exc x ρ1 => .exc x ρ1
  | .bad => .bad
def mNot (a : M O) : M O := fun ρ => match a ρ with
  | .ok (.fz (.bool b)) ρ1 => .ok (.fz (.bool (!b))) ρ1
  | .ok _ _ => .bad
  | .exc x ρ1 => .exc x ρ1
  | .bad => .bad
theorem St.val {P : List (Nat × V)} {e : Ent} {σ : L2.St} {ρ : List O} {vs : List V} {os : List O} {H : Hp} {v : V} {d : PD} (r : ∀ F, Rep k.K F v d) (s : St k P e σ ρ vs os H) : St k P e σ ρ (v :: vs) (.fz d :: os) H := by
  obtain ⟨F, S1, S2, env, tmp, fr, pin⟩ := s
  exact ⟨F, S1, [] ++ S2, env, .cons (.fz (r F)) tmp, fr, pin⟩
theorem tem_and {ta tb : TE} (h1 : TEm k E ta m1) (h2 : TEm k E tb m2) : TEm k E (tAndV ta tb) (mAnd m1 m2) := by
  intro P e σ ρ vs os H Q s g
  refine h1 P e σ ρ vs os H _ s ?_
  unfold mAnd at g
  cases e1 : m1 ρ with
  | ok x ρ1 =>
    rw [e1] at g
    intro v H1 s1
    split at g
    · rename_i e2
      cases e2
      obtain ⟨ev, s2⟩ := s1.bool
      refine ⟨true, ev, ?_⟩
      rw [if_pos rfl]
      exact h2 P e σ ρ1 vs os H1 Q s2 g
    · rename_i e2
      cases e2
      obtain ⟨ev, s2⟩ := s1.bool
      refine ⟨false, ev, ?_⟩
      rw [if_neg (by decide)]
      exact g _ H1 (s2.val fun F => .bl false)
    · exact g.elim
    · rename_i e2; cases e2
    · rename_i e2; cases e2
  | exc x ρ1 => rw [e1] at g; exact g
  | bad => rw [e1] at g; exact g
theorem tem_or {ta tb : TE} (h1 : TEm k E ta m1) (h2 : TEm k E tb m2) : TEm k E (tOrV ta tb) (mOr m1 m2) := by
  intro P e σ ρ vs os H Q s g
  refine h1 P e σ ρ vs os H _ s ?_
  unfold mOr at g
  cases e1 : m1 ρ with
  | ok x ρ1 =>
    rw [e1] at g
    intro v H1 s1
    split at g
    · rename_i e2
      cases e2
      obtain ⟨ev, s2⟩ := s1.bool
      refine ⟨false, ev, ?_⟩
      rw [if_neg (by decide)]
      exact h2 P e σ ρ1 vs os H1 Q s2 g
    · rename_i e2
      cases e2
      obtain ⟨ev, s2⟩ := s1.bool
      refine ⟨true, ev, ?_⟩
      rw [if_pos rfl]
      exact g _ H1 (s2.val fun F => .bl true)
    · exact g.elim
    · rename_i e2; cases e2
    · rename_i e2; cases e2
  | exc x ρ1 => rw [e1] at g; exact g
  | bad => rw [e1] at g; exact g
theorem tem_not {ta : TE} (h1 : TEm k E ta m1) : TEm k E (tNotV ta) (mNot m1) := by
  intro P e σ ρ vs os H Q s g
  refine h1 P e σ ρ vs os H _ s ?_
  unfold mNot at g
  cases e1 : m1 ρ with
  | ok x ρ1 =>
    rw [e1] at g
    intro v H1 s1
    split at g
    · rename_i b ρ2 e2
      cases e2
      obtain ⟨ev, s2⟩ := s1.bool
      exact ⟨b, ev, g _ H1 (s2.val fun F => .bl _)⟩
    · exact g.elim
    · rename_i e2; cases e2
    · rename_i e2; cases e2
  | exc x ρ1 => rw [e1] at g; exact g
  | bad => rw [e1] at g; exact g
theorem tsm_if {c : M Bool} (hc : TTm k E tc c) (h1 : TSm k E A t a) (h2 : TSm k E B u b) : TSm k E (A ++ B) (tIfS tc t u) (sIf c a b) := by
  intro P e σ ρ vs os H D o s g
  refine hc P e σ ρ vs os H _ s ?_
  unfold sIf at g
  cases e1 : c ρ with
  | ok x ρ1 =>
    rw [e1] at g
    intro H1 s1
    cases x with
    | true => rw [if_pos rfl]; exact h1 P e σ ρ1 vs os H1 D o.l s1 g
    | false => rw [if_neg (by decide)]; exact h2 P e σ ρ1 vs os H1 D o.r s1 g
  | exc x ρ1 => rw [e1] at g; exact g.exc
  | bad => rw [e1] at g; exact g
/-! ### loops -/
theorem StW.trans {P : List (Nat × V)} {e : Ent} {F H : Hp} {S : List Addr} (f : Fr e F H S) {σ : L2.St} {ρ : List O} {vs : List V} {os : List O} {F' H' : Hp} {S1 S2 : List Addr} (s : StW k P ⟨F, H, S⟩ σ ρ vs os F' H' S1 S2) : StW k P e σ ρ vs os F' H' S1 S2 :=
  ⟨s.env, s.tmp, f.trans s.fr, s.pin⟩
theorem St.trans {P : List (Nat × V)} {e : Ent} {F H : Hp} {S : List Addr} (f : Fr e F H S) {σ : L2.St} {ρ : List O} {vs : List V} {os : List O} {H' : Hp} (s : St k P ⟨F, H, S⟩ σ ρ vs os H') : St k P e σ ρ vs os H' :=
  let ⟨F', S1, S2, s⟩ := s
  ⟨F', S1, S2, s.trans f⟩
theorem StX.trans {P : List (Nat × V)} {e : Ent} {F H : Hp} {S : List Addr} (f : Fr e F H S) {σ : L2.St} {ρ : List O} {vs : List V} {os : List O} {H' : Hp} {x : Ex} {c : Value} {d : Option Addr} (s : StX k P ⟨F, H, S⟩ σ ρ vs os x c d H') : StX k P e σ ρ vs os x c d H' :=
  let ⟨F', S1, S2, s, r⟩ := s
  ⟨F', S1, S2, s.trans f, r⟩
/-- what is walked, with effect -/
def TIm (k : Kc) (E : XK) (wi : TI) (m : M (List PD)) : Prop := ∀ (P : List (Nat × V)) (e : Ent) (σ : L2.St) (ρ : List O) (vs : List V) (os : List O) (H : Hp) (R : It → Hp → Prop), St k P e σ ρ vs os H →
  ROk (β := Unit) k P e σ vs os E (fun ds ρ' => ∀ J F' H' S1 S2, StW k P e σ ρ' vs os F' H' S1 S2 → WalkD k (fun F2 _ => Same F' F2) J ds → R J H') (m ρ) → wi σ H R
def iLift (q : QI) : M (List PD) := fun ρ => match q ρ with
  | some ds => .ok ds ρ
  | none => .bad
theorem tim_lift {wi : TI} {q : QI} (h : TIf k wi q) : TIm k E wi (iLift q) := by
  intro P e σ ρ vs os H R s g
  obtain ⟨F, S1, S2, s⟩ := s
  unfold iLift at g
  cases e1 : q ρ with
  | none => rw [e1] at g; exact g.elim
  | some ds =>
    rw [e1] at g
    exact h F H σ ρ S1 ds R s.qs e1 fun J F' H' x w => g J F' H' S1 S2 (s.xt x) w
def iList (m : M O) : M (List PD) := fun ρ => match m ρ with
  | .ok (.fz (.list ds)) ρ1 => .ok ds ρ1
  | .ok _ _ => .bad
  | .exc x ρ1 => .exc x ρ1
  | .bad => .bad
def iTup (m : M O) : M (List PD) := fun ρ => match m ρ with
  | .ok (.fz (.tuple ds)) ρ1 => .ok ds ρ1
  | .ok _ _ => .bad
  | .exc x ρ1 => .exc x ρ1
  | .bad => .bad
theorem tim_list (h : TEm k E te m) : TIm k E (L2.iList k.K te) (FM.iList m) := by
  intro P e σ ρ vs os H R s g
  refine h P e σ ρ vs os H _ s ?_
  unfold FM.iList at g
  cases e1 : m ρ with
  | ok x ρ1 =>
    rw [e1] at g
    intro v H1 s1
    split at g
    · rename_i ds ρ2 e2
      cases e2
      obtain ⟨F, S1, S2, s1⟩ := s1
      obtain ⟨r, s2⟩ := s1.top
      obtain ⟨a, vs, rfl, g1, g2⟩ := (Vw.fz (k := k) (H := H1) (S := []) r).fzL rfl
      exact ⟨a, rfl, ⟨vs, sqL_le s2.fr.fle g1⟩, g _ F H1 S1 S2 s2 (walkD_list (fun F2 H2 p f => ⟨sqL_le f (sqL_sub p g1), g2.sub p⟩) g2.length)⟩
    · exact g.elim
    · rename_i e2; cases e2
    · rename_i e2; cases e2
  | exc x ρ1 => rw [e1] at g; exact g
  | bad => rw [e1] at g; exact g
theorem tim_tup (h : TEm k E te m) : TIm k E (L2.iTup k.K te) (FM.iTup m) := by
  intro P e σ ρ vs os H R s g
  refine h P e σ ρ vs os H _ s ?_
  unfold FM.iTup at g
  cases e1 : m ρ with
  | ok x ρ1 =>
    rw [e1] at g
    intro v H1 s1
    split at g
    · rename_i ds ρ2 e2
      cases e2
      obtain ⟨F, S1, S2, s1⟩ := s1
      obtain ⟨r, s2⟩ := s1.top
      obtain ⟨a, vs, rfl, g1, g2⟩ := (Vw.fz (k := k) (H := F) (S := []) r).seqT (fun a u e => .inl e) (show FM.seqT (.fz (.tuple ds)) = some ds from rfl)
      exact ⟨a, rfl, ⟨vs, SqT.of (tup_le s2.fr.fle g1)⟩, g _ F H1 S1 S2 s2 (walkD_tup (fun F2 H2 p f => ⟨SqT.of (tup_le f (p _ _ g1)), g2.sub p⟩) g2.length)⟩
    · exact g.elim
    · rename_i e2; cases e2
    · rename_i e2; cases e2
  | exc x ρ1 => rw [e1] at g; exact g
  | bad => rw [e1] at g; exact g
def forGo (f : QG) (body : MS) : List PD → List O → RS
  | [], ρ => .next ρ
  | x :: xs, ρ => match f x ρ with
    | none => .bad
    | some ρ1 => match body ρ1 with
      | .next ρ2 => forGo f body xs ρ2
      | .cont ρ2 => forGo f body xs ρ2
      | .brk ρ2 => .next ρ2
      | .ret o ρ2 => .ret o ρ2
      | .exc x ρ2 => .exc x ρ2
      | .bad => .bad
def sFor (mi : M (List PD)) (f : QG) (body : MS) : MS := fun ρ => match mi ρ with
  | .ok ds ρ1 => forGo f body ds ρ1
  | .exc x ρ1 => .exc x ρ1
  | .bad => .bad
theorem tsm_for {wi : TI} {g : TG} {tb : TS} {mi : M (List PD)} {f : QG} {body : MS} {J : List Nat} (hi : TIm k E wi mi) (hg : TGq k g f J) (hb : TSm k E A tb body) : TSm k E (J ++ A) (tFor wi g tb) (sFor mi f body) := by
  intro P e σ ρ vs os H D o s gg
  refine hi P e σ ρ vs os H _ s ?_
  unfold sFor at gg
  cases e1 : mi ρ with
  | exc x ρ1 => rw [e1] at gg; exact gg.exc
  | bad => rw [e1] at gg; exact gg
  | ok ds ρ1 =>
    rw [e1] at gg
    simp only at gg
    intro It F H1 S1 S2 s1 W
    have f0 : Fr e F H1 (S1 ++ S2) := s1.fr
    let e' : Ent := ⟨F, H1, S1 ++ S2⟩
    have s1' : St k P e' σ ρ1 vs os H1 := ⟨F, S1, S2, s1.env, s1.tmp, s1.fr.refl, s1.pin⟩
    refine ⟨fun i n σ H => n = ds.length - i ∧ i ≤ ds.length ∧ ∃ ρi, St k P e' σ ρi vs os H ∧ SOk k P e vs os E D (forGo f body (ds.drop i) ρi), ⟨_, rfl, Nat.zero_le _, ρ1, s1', by simpa using gg⟩, ?_⟩
    rintro i n σ2 H2 ⟨rfl, hi2, ρi, s2, g2⟩
    by_cases hlt : i < ds.length
    · obtain ⟨F2, T1, T2, s2⟩ := s2
      refine .inr ⟨W.goes i F2 H2 hlt s2.fr.f0 s2.fr.fle, fun σ' H' => i + 1 ≤ ds.length ∧ ∃ ρi, St k P e' σ' ρi vs os H' ∧ SOk k P e vs os E D (forGo f body (ds.drop (i + 1)) ρi), fun σ' H' z => ⟨_, ?_, rfl, z.1, z.2⟩, fun x H3 y => ?_⟩
      · omega
      · obtain ⟨F3, x3, rx⟩ := W.yields i F2 H2 x H3 hlt s2.fr.f0 s2.fr.fle y
        rw [List.drop_eq_getElem_cons hlt] at g2
        unfold forGo at g2
        cases e6 : f ds[i] ρi with
        | none => rw [e6] at g2; exact g2.elim
        | some ρ4 =>
          simp only [e6] at g2
          have s3 : St k P e' σ2 ρi (x :: vs) (.fz ds[i] :: os) H3 := ⟨F3, T1, [] ++ T2, s2.push x3 (.fz rx) ⟨.nil, (fun a m => by cases m), (fun a m => by cases m), (fun a m => by cases m)⟩⟩
          refine St.target hg s3 o.l e6 fun σ4 s4 => ?_
          refine hb P e' σ4 ρ4 vs os H3 _ o.r s4 ?_
          cases e7 : body ρ4 with
          | next ρ5 => simp only [e7] at g2; exact fun σ5 H5 s5 => ⟨hlt, ρ5, s5, g2⟩
          | cont ρ5 => simp only [e7] at g2; exact fun σ5 H5 s5 => ⟨hlt, ρ5, s5, g2⟩
          | brk ρ5 => simp only [e7] at g2; exact fun σ5 H5 s5 => g2 σ5 H5 (s5.trans f0)
          | ret o5 ρ5 => simp only [e7] at g2; exact fun σ5 v5 H5 s5 => g2 σ5 v5 H5 (s5.trans f0)
          | exc x5 ρ5 => simp only [e7] at g2; exact fun σ5 c d H5 s5 => g2 σ5 c d H5 (s5.trans f0)
          | bad => simp only [e7] at g2; exact g2
    · have ei : i = ds.length := by omega
      subst ei
      obtain ⟨F2, T1, T2, s2⟩ := s2
      refine .inl ⟨W.stops F2 H2 s2.fr.f0 s2.fr.fle, ?_⟩
      rw [List.drop_length] at g2
      exact g2 σ2 H2 (St.trans f0 ⟨F2, T1, T2, s2⟩)
/-! while -/
def whileN (c : M Bool) (body : MS) : Nat → List O → RS
  | 0, _ => .bad
  | n + 1, ρ => match c ρ with
    | .ok false ρ1 => .next ρ1
    | .ok true ρ1 => match body ρ1 with
      | .next ρ2 => whileN c body n ρ2
      | .cont ρ2 => whileN c body n ρ2
      | .brk ρ2 => .next ρ2
      | .ret o ρ2 => .ret o ρ2
      | .exc x ρ2 => .exc x ρ2
      | .bad => .bad
    | .exc x ρ1 => .exc x ρ1
    | .bad => .bad
theorem whileN_succ {c : M Bool} {body : MS} : ∀ {n : Nat} {ρ : List O}, whileN c body n ρ ≠ .bad → whileN c body (n + 1) ρ = whileN c body n ρ
  | 0, _, h => (h rfl).elim
  | n + 1, ρ, h => by
    unfold whileN at h
    rw [whileN]
    conv => rhs; rw [whileN]
    cases e1 : c ρ with
    | bad => rfl
    | exc x ρ1 => rfl
    | ok b ρ1 =>
      rw [e1] at h
      cases b with
      | false => rfl
      | true =>
        simp only at h ⊢
        cases e2 : body ρ1 with
        | next ρ2 => rw [e2] at h; exact whileN_succ h
        | cont ρ2 => rw [e2] at h; exact whileN_succ h
        | _ => rfl
theorem whileN_le {c : M Bool} {body : MS} {n m : Nat} {ρ : List O} (h : whileN c body n ρ ≠ .bad) (l : n ≤ m) : whileN c body m ρ = whileN c body n ρ := by
  induction l with
  | refl => rfl
  | step l ih => rw [whileN_succ (by rw [ih]; exact h), ih]
open Classical in
noncomputable def sWhile (c : M Bool) (body : MS) : MS := fun ρ => if h : ∃ n, whileN c body n ρ ≠ .bad then whileN c body (choose h) ρ else .bad
theorem sWhile_of {c : M Bool} {body : MS} {n : Nat} {ρ : List O} (h : whileN c body n ρ ≠ .bad) : sWhile c body ρ = whileN c body n ρ := by
  have h' : ∃ n, whileN c body n ρ ≠ .bad := ⟨n, h⟩
  unfold sWhile
  rw [dif_pos h']
  have hc := Classical.choose_spec h'
  rcases Nat.le_total n (Classical.choose h') with l | l
  · exact whileN_le h l
  · exact (whileN_le hc l).symm
theorem sWhile_is {c : M Bool} {body : MS} (ρ : List O) : ∃ n, sWhile c body ρ = whileN c body n ρ := by
  by_cases h : ∃ n, whileN c body n ρ ≠ .bad
  · exact ⟨_, sWhile_of h.choose_spec⟩
  · refine ⟨0, ?_⟩
    unfold sWhile
    rw [dif_neg h]
    rfl
def whileStep (c : M Bool) (body : MS) (k : MS) : MS := fun ρ => match c ρ with
  | .ok false ρ1 => .next ρ1
  | .ok true ρ1 => match body ρ1 with
    | .next ρ2 => k ρ2
    | .cont ρ2 => k ρ2
    | .brk ρ2 => .next ρ2
    | .ret o ρ2 => .ret o ρ2
    | .exc x ρ2 => .exc x ρ2
    | .bad => .bad
  | .exc x ρ1 => .exc x ρ1
  | .bad => .bad
theorem whileN_step {c : M Bool} {body : MS} {n : Nat} {ρ : List O} : whileN c body (n + 1) ρ = whileStep c body (whileN c body n) ρ := by
  rw [whileN, whileStep]
theorem sWhile_eq {c : M Bool} {body : MS} (ρ : List O) : sWhile c body ρ = whileStep c body (sWhile c body) ρ := by
  have key : ∀ n, whileN c body (n + 1) ρ ≠ .bad → whileN c body (n + 1) ρ = whileStep c body (sWhile c body) ρ := by
    intro n h
    rw [whileN_step] at h ⊢
    unfold whileStep at h ⊢
    cases e1 : c ρ with
    | bad => rfl
    | exc x ρ1 => rfl
    | ok b ρ1 =>
      rw [e1] at h
      cases b with
      | false => rfl
      | true =>
        simp only at h ⊢
        cases e2 : body ρ1 with
        | next ρ2 => rw [e2] at h; exact (sWhile_of h).symm
        | cont ρ2 => rw [e2] at h; exact (sWhile_of h).symm
        | _ => rfl
  by_cases h : ∃ n, whileN c body n ρ ≠ .bad
  · obtain ⟨n, h⟩ := h
    have h1 : whileN c body (n + 1) ρ ≠ .bad := by rw [whileN_succ h]; exact h
    rw [sWhile_of h1]
    exact key n h1
  · have hb : sWhile c body ρ = .bad := by unfold sWhile; rw [dif_neg h]
    rw [hb]
    refine Classical.byContradiction fun hn => h ?_
    -- the step ends well: so do finitely many
    unfold whileStep at hn
    cases e1 : c ρ with
    | bad => rw [e1] at hn; exact (hn rfl).elim
    | exc x ρ1 => exact ⟨1, by rw [whileN, e1]; simp⟩
    | ok b ρ1 =>
      rw [e1] at hn
      cases b with
      | false => exact ⟨1, by rw [whileN, e1]; simp⟩
      | true =>
        simp only at hn
        cases e2 : body ρ1 with
        | next ρ2 =>
          rw [e2] at hn
          obtain ⟨n, en⟩ := sWhile_is (c := c) (body := body) ρ2
          refine ⟨n + 1, ?_⟩
          rw [whileN, e1]
          simp only [e2]
          rw [← en]
          exact fun z => hn z.symm
        | cont ρ2 =>
          rw [e2] at hn
          obtain ⟨n, en⟩ := sWhile_is (c := c) (body := body) ρ2
          refine ⟨n + 1, ?_⟩
          rw [whileN, e1]
          simp only [e2]
          rw [← en]
          exact fun z => hn z.symm
        | brk ρ2 => exact ⟨1, by rw [whileN, e1]; simp [e2]⟩
        | ret o ρ2 => exact ⟨1, by rw [whileN, e1]; simp [e2]⟩
        | exc x ρ2 => exact ⟨1, by rw [whileN, e1]; simp [e2]⟩
        | bad => rw [e2] at hn; exact (hn rfl).elim
theorem tsm_while {c : M Bool} {tb : TS} {body : MS} (hc : TTm k E tc c) (hb : TSm k E A tb body) : TSm k E A (tWhile tc tb) (sWhile c body) := by
  intro P e σ ρ vs os H D o s g
  obtain ⟨n, en⟩ := sWhile_is (c := c) (body := body) ρ
  rw [en] at g
  refine ⟨fun n σ H => ∃ ρ, St k P e σ ρ vs os H ∧ SOk k P e vs os E D (whileN c body n ρ), ⟨n, ρ, s, g⟩, ?_⟩
  rintro n σ2 H2 ⟨ρ2, s2, g2⟩
  cases n with
  | zero => exact g2.elim
  | succ n =>
    refine hc P e σ2 ρ2 vs os H2 _ s2 ?_
    rw [whileN] at g2
    cases e1 : c ρ2 with
    | bad => rw [e1] at g2; exact g2
    | exc x ρ3 => rw [e1] at g2; exact g2.exc
    | ok b ρ3 =>
      rw [e1] at g2
      intro H3 s3
      cases b with
      | false => rw [if_neg (by decide)]; exact g2 σ2 H3 s3
      | true =>
        rw [if_pos rfl]
        simp only at g2
        refine ⟨fun σ' H' => ∃ ρ, St k P e σ' ρ vs os H' ∧ SOk k P e vs os E D (whileN c body n ρ), fun σ' H' z => ⟨n, Nat.lt_succ_self n, z⟩, ?_⟩
        refine hb P e σ2 ρ3 vs os H3 _ o s3 ?_
        cases e7 : body ρ3 with
        | next ρ5 => simp only [e7] at g2; exact fun σ5 H5 s5 => ⟨ρ5, s5, g2⟩
        | cont ρ5 => simp only [e7] at g2; exact fun σ5 H5 s5 => ⟨ρ5, s5, g2⟩
        | brk ρ5 => simp only [e7] at g2; exact fun σ5 H5 s5 => g2 σ5 H5 s5
        | ret o5 ρ5 => simp only [e7] at g2; exact fun σ5 v5 H5 s5 => g2 σ5 v5 H5 s5
        | exc x5 ρ5 => simp only [e7] at g2; exact fun σ5 c d H5 s5 => g2 σ5 c d H5 s5
        | bad => simp only [e7] at g2; exact g2
end
end FM
namespace FM
open PySem L2 PyProof.Rows
section
variable {k : Kc} {E : XK} {te : TE} {m m1 m2 : M O} {t u : TS} {a b : MS} {A B : List Nat} {tc : TT}
/-! ### a slot's own thing: taken out, frozen where it lies -/
def mMove (i : Nat) : M O := fun ρ => match qVar i ρ with
  | some o => .ok o (ρ.set i .dead)
  | none => .bad
theorem tem_move {i : Nat} : TEm k E (tVar i) (mMove i) := by
  intro P e σ ρ vs os H Q s g
  unfold mMove at g
  cases e0 : qVar i ρ with
  | none => rw [e0] at g; exact g.elim
  | some o =>
    rw [e0] at g
    obtain ⟨F, S1, S2, env, tmp, fr, pin⟩ := s
    obtain ⟨g1, g2⟩ := qVar_some e0
    obtain ⟨v, T, R, a1, a2, a3, a4⟩ := env.take g1 g2
    refine ⟨v, a1, g v H ⟨F, R, T ++ S2, a3, .cons a2 tmp, Sbp.fr fr (.of_count fun a => ?_), pin⟩⟩
    have c2 := a4.count_eq a
    simp only [List.count_append] at c2 ⊢
    omega
def frzO (i : Nat) (ρ : List O) : List O := match qVar i ρ with
  | some o => match toPD o with
    | some d => ρ.set i (.fz d)
    | none => ρ
  | none => ρ
theorem St.frzS {P : List (Nat × V)} {e : Ent} {σ : L2.St} {ρ : List O} {vs : List V} {os : List O} {H : Hp} {i : Nat} (s : St k P e σ ρ vs os H) : St k P e σ (frzO i ρ) vs os H := by
  unfold frzO
  cases e0 : qVar i ρ with
  | none => exact s
  | some o =>
    simp only
    cases e1 : toPD o with
    | none => exact s
    | some d =>
      simp only
      obtain ⟨F, S1, S2, env, tmp, fr, pin⟩ := s
      obtain ⟨g1, g2⟩ := qVar_some e0
      obtain ⟨v, T, R, a1, a2, a3, a4⟩ := env.take g1 g2
      have s2 : St k P e σ (ρ.set i .dead) (v :: vs) (.fz d :: os) H := by
        refine StW.frz ⟨a3, .cons a2 tmp, Sbp.fr fr (.of_count fun a => ?_), pin⟩ e1
        have c2 := a4.count_eq a
        simp only [List.count_append] at c2 ⊢
        omega
      obtain ⟨F2, U1, U2, s2⟩ := s2
      obtain ⟨r, s3⟩ := s2.top
      obtain ⟨U, m, q⟩ := s3.env.put (i := i) a1 (Own.fz r)
      rw [List.set_set] at q
      exact ⟨F2, U, U2, q, s3.tmp, Sbp.fr s3.fr (.of_count fun a => by
        have := m.count a
        simp only [List.nil_append, List.count_append] at this ⊢
        omega), s3.pin⟩
def mGz (i : Nat) (m : M O) : M O := fun ρ => m (frzO i ρ)
def sGz (i : Nat) (m : MS) : MS := fun ρ => m (frzO i ρ)
theorem tem_gz {i : Nat} (h : TEm k E te m) : TEm k E te (mGz i m) := fun P e σ ρ vs os H Q s g => h P e σ _ vs os H Q s.frzS g
theorem tsm_gz {i : Nat} (h : TSm k E A t a) : TSm k E A t (sGz i a) := fun P e σ ρ vs os H D o s g => h P e σ _ vs os H D o s.frzS g
/-! ### displays, calls of builtins -/
theorem Owns.fzs {F H : Hp} : ∀ {vs : List V} {os : List O} {S : List Addr} {ds : List PD}, Owns k F H vs os S → FM.fzs os = some ds → Reps k.K F vs ds ∧ S = []
  | _, _, _, _, .nil, e => by
    have e' := Option.some.inj e
    subst e'
    exact ⟨.nil, rfl⟩
  | _, _, _, _, .cons (os := os) (T := T) w r, e => by
    cases w with
    | fz w =>
      obtain ⟨z, e1, e2⟩ := Option.map_eq_some_iff.mp (show (FM.fzs os).map _ = some _ from e)
      subst e2
      obtain ⟨h1, h2⟩ := Owns.fzs r e1
      exact ⟨.cons w h1, by rw [h2]; rfl⟩
    | _ => cases e
theorem St.splitFz {P : List (Nat × V)} {e : Ent} {σ : L2.St} {ρ : List O} {ws vs : List V} {xs os : List O} {F H : Hp} {S1 S2 : List Addr} {ds : List PD} (s : StW k P e σ ρ (ws ++ vs) (xs ++ os) F H S1 S2) (hl : ws.length = xs.length) (e1 : fzs xs = some ds) : Reps k.K F ws ds ∧ StW k P e σ ρ vs os F H S1 S2 := by
  obtain ⟨env, tmp, fr, pin⟩ := s
  obtain ⟨A, B, eS, o1, o2⟩ := Owns.split hl tmp
  obtain ⟨r, eA⟩ := o1.fzs e1
  subst eS eA
  exact ⟨r, ⟨env, o2, fr, pin⟩⟩
def mTup (m : M (List O)) : M O := fun ρ => match m ρ with
  | .ok xs ρ1 => if xs.length ≤ sizeLine then match fzs xs with
      | some ds => .ok (.fz (.tuple ds)) ρ1
      | none => .ok (.ntp xs) ρ1
    else .bad
  | .exc x ρ1 => .exc x ρ1
  | .bad => .bad
def mLst (m : M (List O)) : M O := fun ρ => match m ρ with
  | .ok xs ρ1 => if xs.length ≤ sizeLine then match fzs xs with
      | some ds => .ok (.lst ds) ρ1
      | none => .ok (.nst xs) ρ1
    else .bad
  | .exc x ρ1 => .exc x ρ1
  | .bad => .bad
theorem StW.pushN {P : List (Nat × V)} {e : Ent} {σ : L2.St} {ρ : List O} {vs : List V} {os : List O} {F H : Hp} {S1 S2 : List Addr} {p : Addr} {ob : HO} {v : V} {o : O} (s : StW k P e σ ρ vs os F H S1 S2) (hp : H p = none) (hn : ∀ o u, ob ≠ .frz o u) (w : Own k F (upd H p ob) v o [p]) : St k P e σ ρ (v :: vs) (o :: os) (upd H p ob) := by
  refine ⟨F, S1, [p] ++ S2, s.push (Xt.own s.fr.fle hp) w ⟨List.nodup_cons.mpr ⟨List.not_mem_nil, .nil⟩, (fun a m => ?_), (fun a m => ?_), (fun a m o u z => ?_)⟩⟩
  · rw [List.mem_singleton.mp m]; exact hp
  · rw [List.mem_singleton.mp m]; exact fle_none s.fr.fle hp
  · rw [List.mem_singleton.mp m, upd_same] at z
    exact hn o u (Option.some.inj z)
theorem StW.nest {P : List (Nat × V)} {e : Ent} {σ : L2.St} {ρ : List O} {ws vs : List V} {xs os : List O} {F H : Hp} {S1 S2 : List Addr} {p : Addr} {ob : HO} {o : O} (s : StW k P e σ ρ (ws ++ vs) (xs ++ os) F H S1 S2) (hl : ws.length = xs.length) (hp : H p = none) (hn : ∀ o u, ob ≠ .frz o u)
    (w : ∀ S, Owns k F (upd H p ob) ws xs S → Own k F (upd H p ob) (.ref p) o (p :: S)) : St k P e σ ρ (.ref p :: vs) (o :: os) (upd H p ob) := by
  have x := Xt.own (o := ob) s.fr.fle hp
  have s2 := s.xt x
  obtain ⟨env, tmp, fr, pin⟩ := s2
  obtain ⟨A, B, eS, o1, o2⟩ := Owns.split hl tmp
  subst eS
  have f2 : Fr e F (upd H p ob) ([p] ++ (S1 ++ (A ++ B))) := s.fr.fresh x ⟨List.nodup_cons.mpr ⟨List.not_mem_nil, .nil⟩, (fun a m => by rw [List.mem_singleton.mp m]; exact hp), (fun a m => by rw [List.mem_singleton.mp m]; exact fle_none s.fr.fle hp), (fun a m o u z => by
    rw [List.mem_singleton.mp m, upd_same] at z
    exact hn o u (Option.some.inj z))⟩ (fun a m => by rw [List.mem_singleton.mp m, upd_same]; simp)
  refine ⟨F, S1, (p :: A) ++ B, env, .cons (w A o1) o2, Sbp.fr f2 (.of_count fun a => ?_), pin⟩
  simp only [List.count_append, List.count_cons, List.count_nil]
  omega
theorem tem_tup {ta : TA} {as : List (Option Nat)} {m : M (List O)} (h : TAm k E ta as m) : TEm k E (tTup ta) (mTup m) := by
  intro P e σ ρ vs os H Q s g
  refine h P e σ ρ vs os H _ s ?_
  unfold mTup at g
  cases e1 : m ρ with
  | exc x ρ1 => rw [e1] at g; exact g
  | bad => rw [e1] at g; exact g
  | ok xs ρ1 =>
    rw [e1] at g
    simp only at g
    intro ws H1 s1 hl _
    obtain ⟨F, S1, S2, s1⟩ := s1
    split at g
    · rename_i hz
      refine ⟨by rw [hl]; exact hz, fun p hp => ?_⟩
      split at g
      · rename_i ds e2
        obtain ⟨r, s2⟩ := St.splitFz s1 hl e2
        have x2 := Xt.new (o := .tup ws) s2.fr.fle hp
        exact g _ _ ⟨_, S1, [] ++ S2, s2.push x2 (.fz (.tup upd_same (r.sub x2.sub))) ⟨.nil, (fun a m => by cases m), (fun a m => by cases m), (fun a m => by cases m)⟩⟩
      · exact g _ _ (s1.nest hl hp (fun _ _ z => by cases z) fun S w => .ntp upd_same w)
    · exact g.elim
theorem tem_lst {ta : TA} {as : List (Option Nat)} {m : M (List O)} (h : TAm k E ta as m) : TEm k E (tLst ta) (mLst m) := by
  intro P e σ ρ vs os H Q s g
  refine h P e σ ρ vs os H _ s ?_
  unfold mLst at g
  cases e1 : m ρ with
  | exc x ρ1 => rw [e1] at g; exact g
  | bad => rw [e1] at g; exact g
  | ok xs ρ1 =>
    rw [e1] at g
    simp only at g
    intro ws H1 s1 hl _
    obtain ⟨F, S1, S2, s1⟩ := s1
    split at g
    · rename_i hz
      refine ⟨by rw [hl]; exact hz, fun p hp => ?_⟩
      split at g
      · rename_i ds e2
        obtain ⟨r, s2⟩ := St.splitFz s1 hl e2
        exact g _ _ (s2.pushN hp (fun _ _ z => by cases z) (.lst (.inl upd_same) r))
      · exact g _ _ (s1.nest hl hp (fun _ _ z => by cases z) fun S w => .nst (.inl upd_same) w)
    · exact g.elim
/-- a builtin that is handed frozen data -/
def mCb (f : List O → Option O) (m : M (List O)) : M O := fun ρ => match m ρ with
  | .ok xs ρ1 => match fzs xs with
    | some ds => match f (ds.map .fz) with
      | some (.fz d) => .ok (.fz d) ρ1
      | _ => .bad
    | none => .bad
  | .exc x ρ1 => .exc x ρ1
  | .bad => .bad
def mCbN (f : List O → Option O) (m : M (List O)) : M O := fun ρ => match m ρ with
  | .ok xs ρ1 => match fzs xs with
    | some ds => match f (ds.map .fz) with
      | some o => .ok o ρ1
      | _ => .bad
    | none => .bad
  | .exc x ρ1 => .exc x ρ1
  | .bad => .bad
theorem Reps.vws {F H : Hp} {S : List Addr} : ∀ {vs : List V} {ds : List PD}, Reps k.K F vs ds → Vws k F H S vs (ds.map .fz)
  | _, _, .nil => .nil
  | _, _, .cons h r => .cons (.fz h) (Reps.vws r)
theorem tem_cb {r : List V → Hp → VK → Prop} {f : List O → Option O} {ta : TA} {as : List (Option Nat)} {m : M (List O)} (h : TAm k E ta as m) (hr : CbV k r f) : TEm k E (tCB r ta) (mCb f m) := by
  intro P e σ ρ vs os H Q s g
  refine h P e σ ρ vs os H _ s ?_
  unfold mCb at g
  cases e1 : m ρ with
  | exc x ρ1 => rw [e1] at g; exact g
  | bad => rw [e1] at g; exact g
  | ok xs ρ1 =>
    rw [e1] at g
    simp only at g
    intro ws H1 s1 hl _
    obtain ⟨F, S1, S2, s1⟩ := s1
    split at g
    · rename_i ds e2
      obtain ⟨r1, s2⟩ := St.splitFz s1 hl e2
      split at g
      · rename_i d e3
        exact hr F H1 [] ws _ _ Q s2.fr.fle (fun a m => by cases m) (fun a m => by cases m) r1.vws e3 fun z F' H' x wz => g z H' ⟨F', S1, [] ++ S2, s2.push x (.fz wz.rep) ⟨.nil, (fun a m => by cases m), (fun a m => by cases m), (fun a m => by cases m)⟩⟩
      · exact g.elim
    · exact g.elim
theorem tem_cbN {r : List V → Hp → VK → Prop} {f : List O → Option O} {ta : TA} {as : List (Option Nat)} {m : M (List O)} (h : TAm k E ta as m) (hr : CbN k r f) : TEm k E (tCB r ta) (mCbN f m) := by
  intro P e σ ρ vs os H Q s g
  refine h P e σ ρ vs os H _ s ?_
  unfold mCbN at g
  cases e1 : m ρ with
  | exc x ρ1 => rw [e1] at g; exact g
  | bad => rw [e1] at g; exact g
  | ok xs ρ1 =>
    rw [e1] at g
    simp only at g
    intro ws H1 s1 hl _
    obtain ⟨F, S1, S2, s1⟩ := s1
    split at g
    · rename_i ds e2
      obtain ⟨r1, s2⟩ := St.splitFz s1 hl e2
      split at g
      · rename_i o e3
        exact hr F H1 [] ws _ _ Q s2.fr.fle (fun a m => by cases m) (fun a m => by cases m) r1.vws e3 fun z F' H' T x wz fr => g z H' ⟨F', S1, T ++ S2, s2.push x wz fr⟩
      · exact g.elim
    · exact g.elim
def mUn (f : O → Option O) (m : M O) : M O := fun ρ => match m ρ with
  | .ok (.fz d) ρ1 => match f (.fz d) with
    | some (.fz d') => .ok (.fz d') ρ1
    | _ => .bad
  | .ok _ _ => .bad
  | .exc x ρ1 => .exc x ρ1
  | .bad => .bad
theorem tem_un {r : V → Hp → VK → Prop} {f : O → Option O} (h : TEm k E te m) (hr : UnV k r f) : TEm k E (tUn r te) (mUn f m) := by
  intro P e σ ρ vs os H Q s g
  refine h P e σ ρ vs os H _ s ?_
  unfold mUn at g
  cases e1 : m ρ with
  | exc x ρ1 => rw [e1] at g; exact g
  | bad => rw [e1] at g; exact g
  | ok o ρ1 =>
    rw [e1] at g
    intro v H1 s1
    cases o with
    | fz d =>
      simp only at g
      obtain ⟨F, S1, S2, s1⟩ := s1
      obtain ⟨r1, s2⟩ := s1.top
      split at g
      · rename_i d' e3
        exact hr F H1 [] v _ _ Q s2.fr.fle (fun a m => by cases m) (fun a m => by cases m) (.fz r1) e3 fun z F' H' x wz => g z H' ⟨F', S1, [] ++ S2, s2.push x (.fz wz.rep) ⟨.nil, (fun a m => by cases m), (fun a m => by cases m), (fun a m => by cases m)⟩⟩
      · exact g.elim
    | _ => exact g.elim
/-! ### slices with effects -/
def TOm (k : Kc) (E : XK) (t : TO) (m : M (Option Int)) : Prop := ∀ (P : List (Nat × V)) (e : Ent) (σ : L2.St) (ρ : List O) (vs : List V) (os : List O) (H : Hp) (Q : Option Int → Hp → Prop), St k P e σ ρ vs os H →
  ROk (β := Unit) k P e σ vs os E (fun b ρ' => ∀ H', St k P e σ ρ' vs os H' → Q b H') (m ρ) → t σ H Q
def pNo : M (Option Int) := fun ρ => .ok none ρ
def pPart (m : M O) : M (Option Int) := fun ρ => match m ρ with
  | .ok (.fz (.int i)) ρ1 => .ok (some i) ρ1
  | .ok _ _ => .bad
  | .exc x ρ1 => .exc x ρ1
  | .bad => .bad
theorem tom_no : TOm k E tNoPart pNo := fun P e σ ρ vs os H Q s g => g H s
theorem tom_part (h : TEm k E te m) : TOm k E (tPart te) (pPart m) := by
  intro P e σ ρ vs os H Q s g
  refine h P e σ ρ vs os H _ s ?_
  unfold pPart at g
  cases e1 : m ρ with
  | exc x ρ1 => rw [e1] at g; exact g
  | bad => rw [e1] at g; exact g
  | ok o ρ1 =>
    rw [e1] at g
    intro v H1 s1
    split at g
    · rename_i i ρ2 e2
      cases e2
      obtain ⟨F, S1, S2, s1⟩ := s1
      obtain ⟨r1, s2⟩ := s1.top
      refine ⟨i, ?_, g H1 ⟨F, S1, S2, s2⟩⟩
      cases r1 with
      | int => rfl
      | dic _ _ e => cases e
      | dit _ _ e => cases e
    · exact g.elim
    · rename_i e2; cases e2
    · rename_i e2; cases e2
def mSl (m : M O) (ml mh : M (Option Int)) : M O := fun ρ => match m ρ with
  | .ok (.fz d) ρ1 => match ml ρ1 with
    | .ok lo ρ2 => match mh ρ2 with
      | .ok hi ρ3 => match oSl (.fz d) lo hi with
        | some (.fz d') => .ok (.fz d') ρ3
        | _ => .bad
      | .exc x ρ3 => .exc x ρ3
      | .bad => .bad
    | .exc x ρ2 => .exc x ρ2
    | .bad => .bad
  | .ok _ _ => .bad
  | .exc x ρ1 => .exc x ρ1
  | .bad => .bad
theorem tem_sl {tl th : TO} {ml mh : M (Option Int)} (h : TEm k E te m) (hl : TOm k E tl ml) (hh : TOm k E th mh) : TEm k E (tSl (rSlU k.K) te tl th) (mSl m ml mh) := by
  intro P e σ ρ vs os H Q s g
  refine h P e σ ρ vs os H _ s ?_
  unfold mSl at g
  cases e1 : m ρ with
  | exc x ρ1 => rw [e1] at g; exact g
  | bad => rw [e1] at g; exact g
  | ok o ρ1 =>
    rw [e1] at g
    intro v H1 s1
    cases o with
    | fz d =>
      simp only at g
      refine hl P e σ ρ1 _ _ H1 _ s1 ?_
      cases e2 : ml ρ1 with
      | exc x ρ2 => rw [e2] at g; exact fun c d H' sx => g c d H' sx.pop
      | bad => rw [e2] at g; exact g
      | ok lo ρ2 =>
        rw [e2] at g
        intro H2 s2
        simp only at g
        refine hh P e σ ρ2 _ _ H2 _ s2 ?_
        cases e3 : mh ρ2 with
        | exc x ρ3 => rw [e3] at g; exact fun c d H' sx => g c d H' sx.pop
        | bad => rw [e3] at g; exact g
        | ok hi ρ3 =>
          rw [e3] at g
          intro H3 s3
          simp only at g
          obtain ⟨F, S1, S2, s3⟩ := s3
          obtain ⟨r1, s4⟩ := s3.top
          split at g
          · rename_i d' e4
            -- the quiet slice at a state of one slot
            have key := tev_sl (k := k) (te := tVar 0) (tl := fun _ H Q => Q lo H) (th := fun _ H Q => Q hi H) (qa := qVar 0) (ql := fun _ => some lo) (qh := fun _ => some hi) tev_var (fun F H σ ρ S b Q q e h => by
              have e' := Option.some.inj e
              subst e'
              exact h F H (Xt.refl q.fle)) (fun F H σ ρ S b Q q e h => by
              have e' := Option.some.inj e
              subst e'
              exact h F H (Xt.refl q.fle))
            have := key F H3 [some v] [.fz d] [] (.fz d') Q ⟨s4.fr.fle, by
              have := Envs.cons (k := k) (F := F) (H := H3) (Own.fz r1) Envs.nil
              exact this, fun a m => by cases m⟩ (by
              unfold qSl qVar
              exact e4) fun z F' H' x wz => g z H' ⟨F', S1, [] ++ S2, s4.push x (.fz wz.rep) ⟨.nil, (fun a m => by cases m), (fun a m => by cases m), (fun a m => by cases m)⟩⟩
            obtain ⟨v', hv', this⟩ := this
            have ev : v = v' := Option.some.inj (Option.some.inj (by simpa using hv'))
            subst ev
            exact this
          · exact g.elim
    | _ => exact g.elim
/-! ### a slot's own list changes -/
/-- methods of a list of data -/
def LstM (k : Kc) (r : V → List V → Hp → VK → Prop) (f : List PD → List PD → Option (PD × List PD)) : Prop := ∀ (F H : Hp) (a : Addr) (vs : List V) (ds : List PD) (ws : List V) (xs : List PD) (d : PD) (ds' : List PD) (Q : VK),
  FLe F H → H a = some (.lst vs) → Reps k.K F vs ds → Reps k.K F ws xs → f ds xs = some (d, ds') → (∀ v vs', Reps k.K F vs' ds' → Rep k.K F v d → Q v (upd H a (.lst vs'))) → r (.ref a) ws H Q
def mMt (i : Nat) (f : List PD → List PD → Option (PD × List PD)) (m : M (List O)) : M O := fun ρ => match qVar i ρ with
  | some (.lst _) => match m ρ with
    | .ok xs ρ1 => match fzs xs with
      | some zs => match qVar i ρ1 with
        | some (.lst ds) => match f ds zs with
          | some r => .ok (.fz r.1) (ρ1.set i (.lst r.2))
          | none => .bad
        | _ => .bad
      | none => .bad
    | .exc x ρ1 => .exc x ρ1
    | .bad => .bad
  | _ => .bad
/-- the slot's list, its object, and a change of it -/
theorem StW.lstAt {P : List (Nat × V)} {e : Ent} {σ : L2.St} {ρ : List O} {vs : List V} {os : List O} {F H : Hp} {S1 S2 : List Addr} {i : Nat} {ds : List PD} (s : StW k P e σ ρ vs os F H S1 S2) (e0 : qVar i ρ = some (.lst ds)) :
    ∃ a ws, σ[i]? = some (some (.ref a)) ∧ H a = some (.lst ws) ∧ Reps k.K F ws ds ∧ ∀ ws' ds', Reps k.K F ws' ds' → ∃ U, StW k P e σ (ρ.set i (.lst ds')) vs os F (upd H a (.lst ws')) U S2 := by
  obtain ⟨env, tmp, fr, pin⟩ := s
  obtain ⟨g1, g2⟩ := qVar_some e0
  obtain ⟨v, T, R, a1, a2, a3, a4⟩ := env.take g1 g2
  cases a2 with
  | @lst a ws _ h r =>
    have fr' : Fr e F H (a :: (R ++ S2)) := Sbp.fr fr (.of_count fun b => by
      have c2 := a4.count_eq b
      simp only [List.count_append, List.count_cons, List.count_nil] at c2 ⊢
      omega)
    have ha : H a = some (.lst ws) := by
      rcases h with h | ⟨ob, h⟩
      · exact h
      · exact (fr'.nofz a List.mem_cons_self ob _ h).elim
    refine ⟨a, ws, a1, ha, r, fun ws' ds' r' => ?_⟩
    have nd := List.nodup_cons.mp fr'.nd
    have at_ : ∀ U : List Addr, (∀ b ∈ U, b ∈ R ++ S2) → At U H (upd H a (.lst ws')) := fun U m b mb u z => by
      rw [upd_ne (fun q => nd.1 (by rw [← q]; exact m b mb))]
      exact z
    have fw := fr'.write (a := a) (o := .lst ws') List.mem_cons_self (fun _ _ z => by cases z)
    have env3 := a3.mono (Same.refl F) (at_ R fun b m => List.mem_append_left _ m)
    have tmp3 := tmp.mono (Same.refl F) (at_ S2 fun b m => List.mem_append_right _ m)
    obtain ⟨U, mU, q⟩ := env3.put (i := i) a1 (Own.lst (k := k) (F := F) (.inl upd_same) r')
    rw [List.set_set] at q
    exact ⟨U, q, tmp3, Sbp.fr fw (.of_count fun b => by
      have := mU.count b
      simp only [List.count_append, List.count_cons, List.count_nil] at this ⊢
      omega), pin⟩
theorem tem_mt {i : Nat} {r : V → List V → Hp → VK → Prop} {f : List PD → List PD → Option (PD × List PD)} {ta : TA} {as : List (Option Nat)} {m : M (List O)} (h : TAm k E ta as m) (hr : LstM k r f) : TEm k E (tBM k.K "list" r (tVar i) ta) (mMt i f m) := by
  intro P e σ ρ vs os H Q s g
  unfold mMt at g
  split at g
  · rename_i ds0 e0
    obtain ⟨F0, T1, T2, s0⟩ := id s
    obtain ⟨a, ws, a1, a2, _, _⟩ := s0.lstAt e0
    refine ⟨.ref a, a1, .inl ⟨rfl, ws, .inl (.inl a2)⟩, h P e σ ρ vs os H _ s ?_⟩
    cases e1 : m ρ with
    | exc x ρ1 => rw [e1] at g; exact g
    | bad => rw [e1] at g; exact g
    | ok xs ρ1 =>
      rw [e1] at g
      simp only at g
      intro zs' H1 s1 hl _
      split at g
      · rename_i zs e2
        obtain ⟨F, S1, S2, s1⟩ := s1
        obtain ⟨r1, s2⟩ := St.splitFz s1 hl e2
        split at g
        · rename_i ds e3
          obtain ⟨a', ws2, b1, b2, b3, b4⟩ := s2.lstAt e3
          rw [a1] at b1
          cases b1
          cases e4 : f ds zs with
          | none => rw [e4] at g; exact g.elim
          | some z =>
            rw [e4] at g
            obtain ⟨d, ds'⟩ := z
            refine hr F H1 a ws2 ds zs' zs d ds' Q s2.fr.fle b2 b3 r1 e4 fun v vs' rv rd => ?_
            obtain ⟨U, s5⟩ := b4 vs' ds' rv
            exact g v _ ⟨F, U, [] ++ S2, s5.env, .cons (.fz rd) s5.tmp, s5.fr, s5.pin⟩
        · exact g.elim
      · exact g.elim
  · exact g.elim
def mMt0 (i : Nat) (f : List PD → List PD → Option (PD × List PD)) : M O := fun ρ => match qVar i ρ with
  | some (.lst ds) => match f ds [] with
    | some r => .ok (.fz r.1) (ρ.set i (.lst r.2))
    | none => .bad
  | _ => .bad
theorem tem_mt0 {i : Nat} {r : V → List V → Hp → VK → Prop} {f : List PD → List PD → Option (PD × List PD)} (hr : LstM k r f) : TEm k E (tBM0 k.K "list" r (tVar i)) (mMt0 i f) := by
  intro P e σ ρ vs os H Q s g
  unfold mMt0 at g
  split at g
  · rename_i ds e0
    obtain ⟨F, S1, S2, s0⟩ := s
    obtain ⟨a, ws, a1, a2, b3, b4⟩ := s0.lstAt e0
    refine ⟨.ref a, a1, .inl ⟨rfl, ws, .inl (.inl a2)⟩, ?_⟩
    cases e4 : f ds [] with
    | none => rw [e4] at g; exact g.elim
    | some z =>
      rw [e4] at g
      obtain ⟨d, ds'⟩ := z
      refine hr F H a ws ds [] [] d ds' Q s0.fr.fle a2 b3 .nil e4 fun v vs' rv rd => ?_
      obtain ⟨U, s5⟩ := b4 vs' ds' rv
      exact g v _ ⟨F, U, [] ++ S2, s5.env, .cons (.fz rd) s5.tmp, s5.fr, s5.pin⟩
  · exact g.elim
def fAppend : List PD → List PD → Option (PD × List PD) := fun ds xs => match xs with
  | [x] => if ds.length < sizeLine then some (.none, ds ++ [x]) else none
  | _ => none
theorem lm_append : LstM k rAppend fAppend := by
  intro F H a vs ds ws xs d ds' Q fl ha r rw' e g
  unfold fAppend at e
  split at e
  · rename_i x
    split at e
    · rename_i hz
      have e' := Option.some.inj e
      cases e'
      cases rw' with
      | cons w r2 =>
        cases r2
        exact ⟨a, vs, _, rfl, rfl, ha, by rw [r.length]; exact hz, g _ _ (r.append (.cons w .nil)) .non⟩
    · cases e
  · cases e
def fPop : List PD → List PD → Option (PD × List PD) := fun ds xs => match xs with
  | [] => match ds[ds.length - 1]? with
    | some d => some (d, ds.dropLast)
    | none => none
  | _ => none
theorem lm_pop : LstM k rPop fPop := by
  intro F H a vs ds ws xs d ds' Q fl ha r rw' e g
  unfold fPop at e
  split at e
  · split at e
    · rename_i y hy
      have e' := Option.some.inj e
      cases e'
      cases rw'
      obtain ⟨v, hv, rv⟩ := r.get hy
      exact ⟨a, vs, v, rfl, rfl, ha, by rw [r.length]; exact hv, g _ _ r.dropLast rv⟩
    · cases e
  · cases e
noncomputable def fPopAt : List PD → List PD → Option (PD × List PD) := fun ds xs => match xs with
  | [.int i] => if big62 i then match seqIndex? i ds.length with
      | some j => match ds[j]? with
        | some d => some (d, ds.eraseIdx j)
        | none => none
      | none => none
    else none
  | _ => none
theorem Reps.erase {K : Frag} {F : Hp} : ∀ {vs : List V} {ds : List PD} (n : Nat), Reps K F vs ds → Reps K F (vs.eraseIdx n) (ds.eraseIdx n)
  | _, _, _, .nil => .nil
  | _, _, 0, .cons h r => r
  | _, _, n + 1, .cons h r => .cons h (Reps.erase n r)
theorem lm_popAt : LstM k rPopAt fPopAt := by
  intro F H a vs ds ws xs d ds' Q fl ha r rw' e g
  unfold fPopAt at e
  split at e
  · rename_i i
    split at e
    · rename_i hb
      split at e
      · rename_i j hj
        split at e
        · rename_i y hy
          have e' := Option.some.inj e
          cases e'
          cases rw' with
          | cons w r2 =>
            cases r2
            have ew := (Vw.fz (k := k) (H := F) (S := []) w).int
            subst ew
            obtain ⟨v, hv, rv⟩ := r.get hy
            have b := big62_ok hb
            exact ⟨a, vs, i, j, v, rfl, rfl, ha, by omega, by omega, by rw [r.length]; exact hj, hv, g _ _ (r.erase j) rv⟩
        · cases e
      · cases e
    · cases e
  · cases e
def fRev : List PD → List PD → Option (PD × List PD) := fun ds xs => match xs with
  | [] => some (.none, ds.reverse)
  | _ => none
theorem lm_rev : LstM k rReverse fRev := by
  intro F H a vs ds ws xs d ds' Q fl ha r rw' e g
  unfold fRev at e
  split at e
  · have e' := Option.some.inj e
    cases e'
    cases rw'
    exact ⟨a, vs, rfl, rfl, ha, g _ _ r.reverse .non⟩
  · cases e
def fClear : List PD → List PD → Option (PD × List PD) := fun ds xs => match xs with
  | [] => some (.none, [])
  | _ => none
theorem lm_clear : LstM k rClear fClear := by
  intro F H a vs ds ws xs d ds' Q fl ha r rw' e g
  unfold fClear at e
  split at e
  · have e' := Option.some.inj e
    cases e'
    cases rw'
    exact ⟨a, vs, rfl, rfl, ha, g _ _ .nil .non⟩
  · cases e
/-! ### slot[i] = value -/
def fSetI (ds : List PD) (i d : PD) : Option (List PD) := match i with
  | .int j => (ixN ds.length j).map fun n => ds.set n d
  | _ => none
def sSetI (s : Nat) (qi : QE) (m : M O) : MS := fun ρ => match m ρ with
  | .ok (.fz d) ρ1 => match qVar s ρ1 with
    | some (.lst ds) => match qi ρ1 with
      | some (.fz i) => match fSetI ds i d with
        | some ds' => .next (ρ1.set s (.lst ds'))
        | none => .bad
      | _ => .bad
    | _ => .bad
  | .ok _ _ => .bad
  | .exc x ρ1 => .exc x ρ1
  | .bad => .bad
theorem tsm_setI {s : Nat} {ti : TE} {qi : QE} (h : TEm k E te m) (hi : TEv k ti qi) : TSm k E [] (tAsg te (gSub (tVar s) ti rSetL)) (sSetI s qi m) := by
  intro P e σ ρ vs os H D o st g
  refine h P e σ ρ vs os H _ st ?_
  unfold sSetI at g
  cases e1 : m ρ with
  | exc x ρ1 => rw [e1] at g; exact g.exc
  | bad => rw [e1] at g; exact g
  | ok z ρ1 =>
    rw [e1] at g
    intro v H1 s1
    cases z with
    | fz d =>
      simp only at g
      obtain ⟨F, S1, S2, s1⟩ := s1
      split at g
      · rename_i ds e2
        split at g
        · rename_i i e3
          obtain ⟨a, ws, a1, a2, a3, a4⟩ := s1.lstAt e2
          refine ⟨.ref a, a1, hi F H1 σ ρ1 S1 _ _ s1.qs e3 fun w F2 H2 x2 w2 => ?_⟩
          have s2 := s1.xt x2
          obtain ⟨a', ws2, b1, b2, b3, b4⟩ := s2.lstAt e2
          rw [a1] at b1
          cases b1
          have rd := s2.top.1
          cases e4 : fSetI ds i d with
          | none => rw [e4] at g; exact g.elim
          | some ds' =>
            rw [e4] at g
            unfold fSetI at e4
            split at e4
            · rename_i j
              obtain ⟨n, e5, e6⟩ := Option.map_eq_some_iff.mp e4
              subst e6
              have ew := w2.int
              subst ew
              refine ⟨a, ws2, j, n, rfl, rfl, b2, by rw [b3.length]; exact e5, ?_⟩
              obtain ⟨U, s5⟩ := b4 _ _ (b3.set rd n)
              obtain ⟨_, s6⟩ := s5.top
              exact g σ _ ⟨F2, U, S2, s6⟩
            · cases e4
        · exact g.elim
      · exact g.elim
    | _ => exact g.elim
end
end FM
namespace FM
open PySem PySem.Spec L2 PyProof.Rows
/-! ### room without a guard -/
structure RoomG (k : Nat) (A : Around) : Prop where
  rm : Room k A
  gd : A.guards = some []
theorem RoomG.mono {j k : Nat} {A : Around} (r : RoomG k A) (h : j ≤ k) : RoomG j A := ⟨r.rm.mono h, r.gd⟩
theorem RoomG.deeper {k : Nat} {A : Around} (r : RoomG (k + 1) A) (env : Env) : RoomG k (A.deeper env) := ⟨r.rm.deeper env, r.gd⟩
theorem make_guards {A : Around} {C : Addr} {us : List Value} {kw : List (Str × Value)} (h : A.guards = some []) : (A.under (.builtin "type.__call__" ⟨.ref C :: us, kw⟩)).guards = some [] := by
  first | exact h | (simp [Around.under, Code.weight, Code.isCreation, Code.isGuard, Code.isCaller, Code.frames, Code.isFrame, guardIds, pushGuards, Code.guards, h])
theorem RoomG.make {k : Nat} {A : Around} (r : RoomG (k + 1) A) (C : Addr) (us : List Value) (kw : List (Str × Value)) : RoomG k (A.under (.builtin "type.__call__" ⟨.ref C :: us, kw⟩)) := ⟨r.rm.make C us kw, make_guards r.gd⟩
theorem roomTop {k : Nat} (h : Room k callerA) : RoomG k callerA := ⟨h, rfl⟩
/-- a def's promise where no guard stands -/
structure FnG (P : Program) (w : World) (K : Frag) (mg : Str → Option Value) (base : Heap) (CX : CXT) (k : Nat) (f : Addr) (fd : FuncData) (ps : List Str) (sp : Sp) : Prop where
  len : ∀ vs H Q E, sp vs H Q E → vs.length = ps.length
  run : ∀ (A : Around) (outer : List Env) (s : Shared) (H : Hp) (args : Args) (us : List Value) (vs : List V) (Q : VK) (E : XK), RoomG k A → Env0 P w K mg base A outer s H → BindsTo s fd args (ps.zip us) → Vals vs us → sp vs H Q E →
    codeAny (model P w) A (.call (.ref f) args) (CR CX outer P w H s Q E) s
section
variable {P : Program} {w : World} {K : Frag} {mg : Str → Option Value} {base : Heap} {CX : CXT} {j k : Nat} {f : Addr} {fd : FuncData} {ps : List Str} {sp sp' : Sp}
theorem FnG.mono (F : FnG P w K mg base CX j f fd ps sp) (h : j ≤ k) : FnG P w K mg base CX k f fd ps sp := ⟨F.len, fun A outer s H args us vs Q E hr => F.run A outer s H args us vs Q E (hr.mono h)⟩
theorem FnG.imp (F : FnG P w K mg base CX k f fd ps sp) (h : ∀ vs H Q E, sp' vs H Q E → sp vs H Q E) : FnG P w K mg base CX k f fd ps sp' :=
  ⟨fun vs H Q E q => F.len vs H Q E (h _ _ _ _ q), fun A outer s H args us vs Q E hr he hb hv hs => F.run A outer s H args us vs Q E hr he hb hv (h _ _ _ _ hs)⟩
end
section
variable {X : Cx} {CX : CXT} {k : Nat} {f C : Addr} {fd : FuncData} {ps : List Str} {sp : Sp} {dvs : List V} {ds : List Value} {E : XK} {x m : Str} {p pos apos : Pos} {e o : Expr} {es : List Expr} {ta : TE} {t : TA}
theorem run_fnG {pins : List (Addr × Obj)} {σ : L2.St} {H : Hp} {s : Shared} {Q : VK} {us : List Value} {vs : List V} (F : FnG X.prog X.w X.K X.mg X.base CX k f fd ps sp) (hr : RoomG k X.A) (hb : Binds X.K fd ps ds) (hd : Vals dvs ds) (hx : Passes CX X E)
    (I : Inv X pins σ H s) (r : Vals vs us) (h : sp (vs ++ dvs) H Q E) : wpAny (model X.prog X.w) X.A (call (.ref f) us) (EP X pins σ Q) X.xe s := by
  have r2 := r.append hd
  refine wpAny_call (codeAny_mono (F.run X.A X.stack s H ⟨us, []⟩ (us ++ ds) (vs ++ dvs) Q E hr I.env0 (hb s us I.kIn (by rw [← r2.length]; exact F.len _ _ _ _ h)) r2 h) fun r s' hq => ?_)
  cases r with
  | error e => exact hx pins σ H s e s' I hq
  | ok fl =>
    cases fl with
    | ret u => exact I.after hq
    | _ => exact hq.elim
theorem pe_callG (F : FnG X.prog X.w X.K X.mg X.base CX k f fd ps sp) (hr : RoomG k X.A) (hg : Gl X x) (hm : X.mg x = some (.ref f)) (hk : PySem.W.keepIn X.K (.ref f) = true) (hb : Binds X.K fd ps ds) (hd : Vals dvs ds) (hx : Passes CX X E)
    (ha : PA X (e :: es) t) (hdb : (x == ("__debug__" : Str)) = false := by decide) (he : starEach (e :: es) X.env = (false, eval e X.env) :: starEach es X.env := by rfl) (hpl : (backTo pos (starEach es X.env)).any (·.1) = false := by rfl) :
    PE X (.Call (.Name x p) (e :: es) [] pos) (tCall sp dvs E t) := by
  refine ⟨fun pins s σ H Q I h => wpAny_Call_Name_kw (ld_glob I hg hm ?_ hdb)⟩
  exact PySem.W.callWith_K (h₀ := X.base) I.ok.mod.kin hk (thn (ha.run pos pins s σ H _ I h) fun us s1 ⟨vs, H1, I1, r, q⟩ => ⟨I1.kIn, run_fnG F hr hb hd hx I1 r q⟩) he hpl
theorem pe_call0G (F : FnG X.prog X.w X.K X.mg X.base CX k f fd ps sp) (hr : RoomG k X.A) (hg : Gl X x) (hm : X.mg x = some (.ref f)) (hk : PySem.W.keepIn X.K (.ref f) = true) (hb : Binds X.K fd ps ds) (hd : Vals dvs ds) (hx : Passes CX X E)
    (hdb : (x == ("__debug__" : Str)) = false := by decide) : PE X (.Call (.Name x p) [] [] pos) (tCall sp dvs E tNil) := by
  refine ⟨fun pins s σ H Q I h => wpAny_Call_Name_kw (ld_glob I hg hm ?_ hdb)⟩
  exact PySem.W.callWith_K0 I.kIn hk (run_fnG (us := []) F hr hb hd hx I .nil h)
theorem pe_methG {pl : Sem Bool} (he : PE X o ta) (c : Cls X.K C) (hm : Meth X.K C m f) (F : FnG X.prog X.w X.K X.mg X.base CX k f fd ps sp) (hr : RoomG k X.A) (hb : Binds X.K fd ps ds) (hd : Vals dvs ds) (hx : Passes CX X E) (ha : PA X (e :: es) t)
    (hst : starEach (e :: es) X.env = (false, eval e X.env) :: starEach es X.env := by rfl) (hpl : (backTo pos (starEach es X.env)).any (·.1) = false := by rfl)
    (ht : eval (.Call (.Attribute o m apos) (e :: es) [] pos) X.env = (do
      let ov ← eval o X.env
      standAt apos.atName
      let (f, first) ← holding [ov] (getMethod ov m pl)
      callWith pos f first (backTo pos (starEach (e :: es) X.env)) (backToKw pos (keywordEach [] X.env))) := by rfl) :
    PE X (.Call (.Attribute o m apos) (e :: es) [] pos) (tMeth C m sp dvs E ta t) := by
  refine ⟨fun pins s σ H Q I h => PySem.W.methodCall_KW (pl := pl) (thn (he.run pins s σ H _ I h) fun u s1 ⟨x, H1, I1, rx, a, dx, fs, ex, ea, l, q⟩ => ?_) ht⟩
  subst ex
  obtain rfl : u = Value.ref a := rx
  refine getmeth_ok I1 ea c hm l ?_
  exact PySem.W.callWith_K (first := [.ref a]) (h₀ := X.base) I.ok.mod.kin hm.kp (thn (ha.run pos pins s1 σ H1 _ I1 q) fun us s2 ⟨vs, H2, I2, r, q2⟩ => ⟨I2.kIn, run_fnG (us := .ref a :: us) (vs := .ref a :: vs) F hr hb hd hx I2 (.cons rfl r) q2⟩) hst hpl
theorem pe_meth0G {pl : Sem Bool} (he : PE X o ta) (c : Cls X.K C) (hm : Meth X.K C m f) (F : FnG X.prog X.w X.K X.mg X.base CX k f fd ps sp) (hr : RoomG k X.A) (hb : Binds X.K fd ps ds) (hd : Vals dvs ds) (hx : Passes CX X E)
    (ht : eval (.Call (.Attribute o m apos) [] [] pos) X.env = (do
      let ov ← eval o X.env
      standAt apos.atName
      let (f, first) ← holding [ov] (getMethod ov m pl)
      callWith pos f first (backTo pos (starEach [] X.env)) (backToKw pos (keywordEach [] X.env))) := by rfl) :
    PE X (.Call (.Attribute o m apos) [] [] pos) (tMeth C m sp dvs E ta tNil) := by
  refine ⟨fun pins s σ H Q I h => PySem.W.methodCall_KW (pl := pl) (thn (he.run pins s σ H _ I h) fun u s1 ⟨x, H1, I1, rx, a, dx, fs, ex, ea, l, q⟩ => ?_) ht⟩
  subst ex
  obtain rfl : u = Value.ref a := rx
  exact getmeth_ok I1 ea c hm l (PySem.W.callWith_K0 (first := [.ref a]) I1.kIn hm.kp (run_fnG (us := [.ref a]) (vs := [.ref a]) F hr hb hd hx I1 (.cons rfl .nil) q))
/-- a def of the text where no guard stands -/
theorem FunD.okG {P : Program} {w : World} {K : Frag} {mg : Str → Option Value} {base : Heap} {qual : Str} {params : Arguments} {body : List Stmt} {scope : Scope} {kws : List (Str × V)} {N : List Str} (F : FunD K x qual params body scope dvs kws f fd) (S : FnScope N ps scope) (len : ∀ vs H Q E, sp vs H Q E → vs.length = ps.length)
    (hbody : ∀ (cdv : Value) (A : Around) (outer : List Env) (s : Shared) (H : Hp) (vs : List V) (Q : VK) (E : XK), RoomG k (A.deeper (envOfC qual scope s.heap.objs.size f cdv)) → sp vs H Q E →
      ∃ t, PSs (cxOf CX P w K mg base N qual scope f cdv A outer s H E) body t ∧ t { nx := fun _ H' => Q .non H', rt := Q } (start N vs) H) : FnG P w K mg base CX (k + 1) f fd ps sp := by
  obtain ⟨oc, od, dV, kV, doc, pm, an, cdv, ct, osl, rfl, lk, hcd, _, _⟩ := F.ex
  refine ⟨len, fun A outer s H args us vs Q E hr e0 hb r hsp => ?_⟩
  have KX : K.In s.heap := e0.mod.kin.keeps fun b o e => (e0.bs b o e).1
  have kinds : ∀ y ∈ ps.zip us, scope.names.lookup y.1 = some .local ∨ (scope.names.lookup y.1 = some .cell ∧ ((cellsFrom (s.heap.objs.size + 1) scope.names []).lookup y.1).isSome = true) := fun y hy =>
    (S.par y.1 (List.of_mem_zip (a := y.1) (b := y.2) hy).1).imp id fun q => ⟨q, PySem.W.cellsFrom_some _ _ _ (.inl q)⟩
  refine codeAny_call_function hr.rm.depth (KX _ _ lk) rfl S.co S.gen rfl (PySem.W.codeRec_of KX hcd) (hb _ _ _ _ (wpAny_newFunctionEnv_cells S.kind kinds fun env he s1 x => ?_))
  subst he
  refine ⟨(e0.mod.nolimit.keeps fun b o e => (e0.bs b o e).1).keeps x.toInCall.keep, codeAny_func ?_⟩
  obtain ⟨t, ht, hq⟩ := hbody cdv A outer s H vs Q E (hr.deeper _) hsp
  refine wpAny_mono (ht.run [] s1 (start N vs) H _ (inv_start S hr.rm.hd e0 (len _ _ _ _ hsp) r x) hq) (fun fl s' hs => ?_) fun e s' hs => hs
  cases fl with
  | ret u =>
    obtain ⟨v, σ', H', J, rv, q⟩ := hs
    exact ⟨v, H', J.os, J.bare, J.base, J.hok, rv, q⟩
  | next =>
    obtain ⟨σ', H', J, q⟩ := hs
    exact ⟨.non, H', J.os, J.bare, J.base, J.hok, rfl, q⟩
  | brk =>
    obtain ⟨_, _, _, q⟩ := hs
    exact q.elim
  | cont =>
    obtain ⟨_, _, _, q⟩ := hs
    exact q.elim
/-- a def that lets nothing out -/
theorem FunD.okN {P : Program} {w : World} {K : Frag} {mg : Str → Option Value} {base : Heap} {qual : Str} {params : Arguments} {body : List Stmt} {scope : Scope} {kws : List (Str × V)} {N : List Str} (F : FunD K x qual params body scope dvs kws f fd) (S : FnScope N ps scope) (len : ∀ vs H Q E, sp vs H Q E → vs.length = ps.length)
    (hbody : ∀ (cdv : Value) (A : Around) (outer : List Env) (s : Shared) (H : Hp) (vs : List V) (Q : VK) (E : XK), RoomG k (A.deeper (envOfC qual scope s.heap.objs.size f cdv)) → sp vs H Q E →
      ∃ t, PSs (cxOf CX P w K mg base N qual scope f cdv A outer s H E).nox body t ∧ t { nx := fun _ H' => Q .non H', rt := Q } (start N vs) H) : FnG P w K mg base CX (k + 1) f fd ps sp :=
  FunD.okG F S len fun cdv A outer s H vs Q E hr h => let ⟨t, a, b⟩ := hbody cdv A outer s H vs Q E hr h; ⟨t, a.nox, b⟩
end
end FM
namespace FM
open PySem PySem.Spec L2 PyProof.Rows
/-! ### a def, from its body's mirror -/
def outsE : List Bool → List O → List O
  | [], _ => []
  | b :: bs, o :: ρ => (if b then o else .dead) :: outsE bs ρ
  | _ :: bs, [] => .dead :: outsE bs []
def deadN : Nat → List O
  | 0 => []
  | n + 1 => .dead :: deadN n
/-- more: the slots behind the parameters; io: which parameters are handed back -/
def defM (more : Nat) (io : List Bool) (m : MS) (os : List O) : FR := match m (os ++ deadN more) with
  | .ret o ρ => .ret o (outsE io ρ)
  | .next ρ => .ret (.fz .none) (outsE io ρ)
  | .exc x ρ => .exc x (outsE io ρ)
  | _ => .bad
/-- .. that lets nothing out -/
def defN (more : Nat) (io : List Bool) (m : MS) (os : List O) : FR := match m (os ++ deadN more) with
  | .ret o ρ => .ret o (outsE io ρ)
  | .next ρ => .ret (.fz .none) (outsE io ρ)
  | _ => .bad
def pinsOf : Nat → List Bool → List V → List (Nat × V)
  | i, true :: bs, w :: ws => (i, w) :: pinsOf (i + 1) bs ws
  | i, false :: bs, _ :: ws => pinsOf (i + 1) bs ws
  | _, _, _ => []
def offB (io : List Bool) (A : List Nat) : Bool := A.all fun j => !(io.getD j false)
theorem pins_io : ∀ {io : List Bool} {ws : List V} {i : Nat} {p : Nat × V}, p ∈ pinsOf i io ws → i ≤ p.1 ∧ io.getD (p.1 - i) false = true ∧ ws[p.1 - i]? = some p.2
  | [], _, _, _, m => by cases m
  | true :: bs, [], _, _, m => by cases m
  | false :: bs, [], _, _, m => by cases m
  | true :: bs, w :: ws, i, p, m => by
    rcases List.mem_cons.mp (show p ∈ (i, w) :: pinsOf (i + 1) bs ws from m) with e | m
    · subst e
      simp
    · obtain ⟨h1, h2, h3⟩ := pins_io m
      have e : p.1 - i = (p.1 - (i + 1)) + 1 := by omega
      refine ⟨by omega, ?_, ?_⟩
      · rw [e]; simpa using h2
      · rw [e]; simpa using h3
  | false :: bs, w :: ws, i, p, m => by
    obtain ⟨h1, h2, h3⟩ := pins_io (show p ∈ pinsOf (i + 1) bs ws from m)
    have e : p.1 - i = (p.1 - (i + 1)) + 1 := by omega
    refine ⟨by omega, ?_, ?_⟩
    · rw [e]; simpa using h2
    · rw [e]; simpa using h3
theorem pins_at : ∀ {io : List Bool} {ws : List V} {i j : Nat} {w : V}, io[j]? = some true → ws[j]? = some w → (i + j, w) ∈ pinsOf i io ws
  | [], _, _, _, _, e, _ => by simp at e
  | _ :: _, [], _, _, _, _, e => by simp at e
  | b :: bs, w :: ws, i, 0, w', e1, e2 => by
    have e1' : b = true := by simpa using e1
    have e2' : w = w' := by simpa using e2
    subst e1' e2'
    exact List.mem_cons_self
  | b :: bs, w :: ws, i, j + 1, w', e1, e2 => by
    have := pins_at (i := i + 1) (j := j) (io := bs) (ws := ws) (w := w') (by simpa using e1) (by simpa using e2)
    have e : i + (j + 1) = i + 1 + j := by omega
    rw [e]
    cases b with
    | true => exact List.mem_cons_of_mem _ this
    | false => exact this
theorem off_pins {io : List Bool} {A : List Nat} {ws : List V} (h : offB io A = true) : Off (pinsOf 0 io ws) A := fun p m z => by
  obtain ⟨_, h2, _⟩ := pins_io m
  have := List.all_eq_true.mp h p.1 z
  rw [Nat.sub_zero] at h2
  rw [h2] at this
  cases this
theorem Owns.envs {k : Kc} {F H : Hp} (n : Nat) : ∀ {ws : List V} {os : List O} {S : List Addr}, Owns k F H ws os S → Envs k F H (ws.map some ++ List.replicate n none) (os ++ deadN n) S
  | _, _, _, .nil => by
    show Envs k F H (List.replicate n none) (deadN n) []
    induction n with
    | zero => exact .nil
    | succ n ih =>
      rw [List.replicate_succ]
      exact .dead ih
  | _, _, _, .cons h r => .cons h (Owns.envs n r)
theorem Envs.outs {k : Kc} {F H : Hp} : ∀ {io : List Bool} {ws : List V} {σ : L2.St} {ρ : List O} {S : List Addr}, Envs k F H σ ρ S → io.length = ws.length → (∀ (j : Nat) (w : V), io[j]? = some true → ws[j]? = some w → σ[j]? = some (some w)) → ∃ T : List Addr, T.Sublist S ∧ Owns k F H ws (outsE io ρ) T
  | [], [], _, _, S, _, _, _ => ⟨[], List.nil_sublist S, .nil⟩
  | [], _ :: _, _, _, _, _, e, _ => by cases e
  | _ :: _, [], _, _, _, _, e, _ => by cases e
  | b :: bs, w :: ws, _, _, _, .nil, e, h => by
    obtain ⟨T, m, q⟩ := Envs.outs (io := bs) (ws := ws) (k := k) (F := F) (H := H) .nil (Nat.succ.inj e) fun j w' e1 e2 => by
      have := h (j + 1) w' (by simpa using e1) (by simpa using e2)
      simp at this
    exact ⟨[] ++ T, m, .cons .dead q⟩
  | b :: bs, w :: ws, _, _, _, .dead r, e, h => by
    obtain ⟨T, m, q⟩ := Envs.outs (io := bs) (ws := ws) r (Nat.succ.inj e) fun j w' e1 e2 => by
      have := h (j + 1) w' (by simpa using e1) (by simpa using e2)
      simpa using this
    refine ⟨[] ++ T, m, ?_⟩
    show Owns k F H (w :: ws) ((if b then .dead else .dead) :: outsE bs _) _
    rw [ite_self]
    exact .cons .dead q
  | b :: bs, w :: ws, _, _, _, .cons (v := v) (S := S1) hv r, e, h => by
    obtain ⟨T, m, q⟩ := Envs.outs (io := bs) (ws := ws) r (Nat.succ.inj e) fun j w' e1 e2 => by
      have := h (j + 1) w' (by simpa using e1) (by simpa using e2)
      simpa using this
    cases b with
    | true =>
      have e0 : v = w := by simpa using h 0 w rfl rfl
      subst e0
      exact ⟨S1 ++ T, List.Sublist.append (.refl _) m, .cons hv q⟩
    | false => exact ⟨[] ++ T, m.trans (List.sublist_append_right _ _), .cons .dead q⟩
/-- a body's run from the promise -/
theorem body_ok {k : Kc} {E : XK} {A : List Nat} {t : TS} {m : MS} {N ps : List Str} {io : List Bool} {more : Nat} {ws : List V} {H : Hp} {Q : VK} (ht : TSm k E A t m) (hA : offB io A = true) (hn : N.length = io.length + more) (h : spM k io.length (defM more io m) ws H Q E) : t { nx := fun _ H' => Q .non H', rt := Q } (start N ws) H := by
  obtain ⟨hl, F, os, S, ow, fr, g⟩ := h
  have es : L2.start N ws = ws.map some ++ List.replicate more none := by
    unfold L2.start
    rw [hl, hn, Nat.add_sub_cancel_left]
  rw [es]
  have hpin : ∀ p ∈ pinsOf 0 io ws, (ws.map some ++ List.replicate more none)[p.1]? = some (some p.2) := fun p m => by
    obtain ⟨_, _, h3⟩ := pins_io m
    rw [Nat.sub_zero] at h3
    have hlt : p.1 < ws.length := by
      rcases Nat.lt_or_ge p.1 ws.length with z | z
      · exact z
      · rw [List.getElem?_eq_none z] at h3; cases h3
    rw [List.getElem?_append_left (by simpa using hlt), List.getElem?_map, h3]
    rfl
  have s0 : St k (pinsOf 0 io ws) ⟨F, H, S⟩ (ws.map some ++ List.replicate more none) (os ++ deadN more) [] [] H := ⟨F, S, [], ow.envs more, .nil, by rw [List.append_nil]; exact fr, hpin⟩
  -- what is handed back
  have back : ∀ {σ : L2.St} {ρ : List O} {vs : List V} {xs : List O} {F' H' : Hp} {S1 S2 : List Addr}, StW k (pinsOf 0 io ws) ⟨F, H, S⟩ σ ρ vs xs F' H' S1 S2 → ∃ T, Owns k F' H' ws (outsE io ρ) T ∧ Fr ⟨F, H, S⟩ F' H' (S2 ++ T) := fun {σ ρ vs xs F' H' S1 S2} s => by
    obtain ⟨T, m, q⟩ := s.env.outs (io := io) (ws := ws) hl.symm fun j w e1 e2 => s.pin (j, w) (by
      have := pins_at (i := 0) e1 e2
      rwa [Nat.zero_add] at this)
    refine ⟨T, q, Sbp.fr s.fr (.of_count fun a => ?_)⟩
    have := m.count_le a
    simp only [List.count_append]
    omega
  refine ht _ _ _ _ [] [] H _ (off_pins hA) s0 ?_
  unfold defM at g
  cases e1 : m (os ++ deadN more) with
  | bad => rw [e1] at g; exact g
  | brk ρ => rw [e1] at g; exact g.elim
  | cont ρ => rw [e1] at g; exact g.elim
  | next ρ =>
    rw [e1] at g
    intro σ H' s
    obtain ⟨F', S1, S2, s⟩ := s
    obtain ⟨T, q, f⟩ := back s
    exact g .non H' ⟨F', [] ++ T, .cons (.fz .non) q, f.sub (List.sublist_append_right _ _)⟩
  | ret o ρ =>
    rw [e1] at g
    intro σ v H' s
    obtain ⟨F', S1, S2, s⟩ := s
    obtain ⟨T, q, f⟩ := back s
    cases s.tmp with
    | @cons _ _ _ _ T1 U w r =>
      cases r
      rw [List.append_nil] at f
      exact g v H' ⟨F', T1 ++ T, .cons w q, f⟩
  | exc x ρ =>
    rw [e1] at g
    intro σ c d H' s
    obtain ⟨F', S1, S2, s, xr⟩ := s
    obtain ⟨T, q, f⟩ := back s
    exact g c d H' ⟨F', T, q, f.sub (List.sublist_append_right _ _), xr⟩
theorem FOk.imp {k : Kc} {e : Ent} {ws : List V} {Q : VK} {E E' : XK} {more : Nat} {io : List Bool} {m : MS} {os : List O} (h : FOk k e ws Q E (defN more io m os)) : FOk k e ws Q E' (defM more io m os) := by
  unfold defN at h
  unfold defM
  cases e1 : m (os ++ deadN more) with
  | ret o ρ => rw [e1] at h; exact h
  | next ρ => rw [e1] at h; exact h
  | _ => rw [e1] at h; exact h.elim
theorem body_okN {k : Kc} {A : List Nat} {t : TS} {m : MS} {N ps : List Str} {io : List Bool} {more : Nat} {ws : List V} {H : Hp} {Q : VK} {E E' : XK} (ht : TSm k E' A t m) (hA : offB io A = true) (hn : N.length = io.length + more) (h : spM k io.length (defN more io m) ws H Q E) : t { nx := fun _ H' => Q .non H', rt := Q } (start N ws) H := by
  obtain ⟨hl, F, os, S, ow, fr, g⟩ := h
  exact body_ok (ps := ps) ht hA hn ⟨hl, F, os, S, ow, fr, g.imp⟩
/-! ### a def of the text -/
section
variable {P : Program} {w : World} {K : Frag} {mg : Str → Option Value} {base : Heap} {CX : CXT} {x qual : Str} {params : Arguments} {body : List Stmt} {scope : Scope} {dvs : List V} {kws : List (Str × V)} {f : Addr} {fd : FuncData} {N ps : List Str} {io : List Bool} {more k : Nat} {kc : Kc}
theorem def_okN {m : MS} (F : FunD K x qual params body scope dvs kws f fd) (S : FnScope N ps scope) (hp : io.length = ps.length) (hn : N.length = io.length + more)
    (hbody : ∀ (cdv : Value) (A : Around) (outer : List Env) (s : Shared) (H : Hp) (E : XK), RoomG k (A.deeper (envOfC qual scope s.heap.objs.size f cdv)) →
      ∃ t J, PSs (cxOf CX P w K mg base N qual scope f cdv A outer s H E).nox body t ∧ TSm kc E0 J t m ∧ offB io J = true) : FnG P w K mg base CX (k + 1) f fd ps (spM kc io.length (defN more io m)) := by
  refine FunD.okN F S (fun vs H Q E h => h.1.trans hp) fun cdv A outer s H vs Q E hr h => ?_
  obtain ⟨t, J, h1, h2, h3⟩ := hbody cdv A outer s H E hr
  exact ⟨t, h1, body_okN (ps := ps) h2 h3 hn h⟩
theorem FnG.quiet {n : Nat} {g : List O → FR} (F : FnG P w K mg base CX k f fd ps (spM kc n g)) : FnG P w K mg base CX k f fd ps (spQ kc n (qOf g)) := F.imp fun _ _ _ _ h => h.imp
end
/-! ### the law's end -/
theorem law_callG {P : Program} {w : World} {K : Frag} {mg mb : Str → Option Value} {CX : CXT} {k : Nat} {fa a : Addr} {fd : FuncData} {x : Str} {sp : Sp} {s₁ : Shared} {vs : List Value} {ns : List Int}
    (KX : K.In s₁.heap) (hns : s₁.heap.Ns mainGlobals mg) (hb : s₁.heap.Ns builtinsNs mb) (hbb : ∀ x : Str, x ≠ "__name__" → mb x = bootBuiltins x) (hlim : s₁.heap.NoLimit) (hg : s₁.gens = #[])
    (ha : s₁.heap.get? a = some { cls := .type "list", data := .seq vs.toArray }) (hi : IntsAre vs ns) (hl : ns.length ≤ sizeLine) (hr : Room k callerA)
    (F : ∀ base : Heap, K.In base → base.Ns mainGlobals mg → FnG P w K mg base CX k fa fd [x] sp) (hbind : ∀ (s : Shared) (u : Value), BindsTo s fd ⟨[u], []⟩ [(x, u)])
    (hsp : ∀ H : Hp, Only H → SqL K H a (ns.map V.int) → sp [.ref a] H (fun v _ => v = .bl true) fun _ _ _ => False)
    (hCX : ∀ H e s', CX [] H s₁ (fun _ _ _ => False) e s' → False) :
    codeAny (model P w) callerA (.call (.ref fa) ⟨[.ref a], []⟩) (fun r s' => r = .ok (.ret (.bool true)) ∧ OldK s₁.heap s'.heap ∧ s'.os = s₁.os ∧ AllBare s'.gens) s₁ := by
  have rv := vals_ints hi
  have lenV := hi.length
  -- H: nothing, or the script alone
  have core : ∀ H : Hp, Only H → SqL K H a (ns.map V.int) → HOk P w H s₁.heap → (∀ b, H b ≠ none → b = a ∧ K.lookup a = none) →
      codeAny (model P w) callerA (.call (.ref fa) ⟨[.ref a], []⟩) (fun r s' => r = .ok (.ret (.bool true)) ∧ OldK s₁.heap s'.heap ∧ s'.os = s₁.os ∧ AllBare s'.gens) s₁ := by
    intro H hO hS hok hA
    have other : ∀ {b : Addr}, b ≠ a → H b = none := fun {b} n => by
      cases q : H b with
      | none => rfl
      | some u => exact (n (hA b (by rw [q]; simp)).1).elim
    have nsB : ∀ {b : Addr} {m : Str → Option Value}, s₁.heap.Ns b m → (hidT s₁.heap H).Ns b m := fun {b m} ⟨o, es, ep, e, d, r⟩ => ⟨o, es, ep, hidT_get e (other fun z => by
      subst z
      rw [ha] at e
      cases e
      exact Data.noConfusion (show Data.seq vs.toArray _ = Data.dict es ep from d)), d, r⟩
    have hKb : K.In (hidT s₁.heap H) := fun b o e => hidT_get (KX b o e) (by
      cases q : H b with
      | none => rfl
      | some u =>
        obtain ⟨e1, e2⟩ := hA b (by rw [q]; simp)
        subst e1
        rw [e2] at e
        cases e)
    have hM : Mod K mg (hidT s₁.heap H) := ⟨hKb, nsB hns, ⟨mb, nsB hb, hbb⟩, let ⟨mc, h1, h2⟩ := hlim; ⟨mc, nsB h1, h2⟩⟩
    have e0 : Env0 P w K mg (hidT s₁.heap H) callerA [] s₁ H := ⟨rfl, hM, fun b o e => of_hidT e, Nat.le_of_eq (hidT_size _ _), trivial, fun b z => absurd (show b ∈ ([] : List Addr) from z) (by simp), hok, .of_eq hg⟩
    refine codeAny_mono ((F _ hKb (nsB hns)).run callerA [] s₁ H ⟨[.ref a], []⟩ [.ref a] [.ref a] _ _ (roomTop hr) e0 (hbind s₁ (.ref a)) (.cons rfl .nil) (hsp H hO hS)) fun r s' h => ?_
    cases r with
    | error e => exact (hCX H e s' h).elim
    | ok fl =>
      cases fl with
      | ret u =>
        obtain ⟨v, H', os, bare, un, hok', r', q⟩ := h
        have q' : v = .bl true := q
        subst q'
        obtain rfl : u = Value.bool true := r'
        refine ⟨rfl, OldK.of_keep fun b o e => ?_, os, bare⟩
        rcases hO b with z | ⟨ob, xs, z⟩
        · exact un.keep b o e z (fun m => absurd (show b ∈ ([] : List Addr) from m) (by simp)) (by simp)
        · obtain ⟨e1, _⟩ := hok b _ z
          obtain ⟨e2, _⟩ := hok' b _ (un.frzs b ob _ z)
          rw [e] at e1
          cases e1
          exact e2
      | _ => exact h.elim
  cases hk : K.lookup a with
  | some o =>
    have e := KX a o hk
    rw [ha] at e
    cases e
    exact core (fun _ => none) (fun _ => .inl rfl) (.inr ⟨_, vs.toArray, _, hk, rfl, rfl, rfl, by rw [List.size_toArray, lenV]; exact hl, by simpa using rv⟩) (fun b u z => by cases z) fun b z => absurd rfl z
  | none =>
    let H : Hp := fun b => if b = a then some (.frz { cls := .type "list", data := .seq vs.toArray } (.lst (ns.map V.int))) else none
    have at_ : H a = some (.frz { cls := .type "list", data := .seq vs.toArray } (.lst (ns.map V.int))) := if_pos rfl
    have off : ∀ b, b ≠ a → H b = none := fun b n => if_neg n
    refine core H (fun b => ?_) (.inl (.inr ⟨_, at_⟩)) (fun b u z => ?_) fun b z => ⟨Classical.byContradiction fun n => z (off b n), hk⟩
    · by_cases hb : b = a
      · subst hb
        exact .inr ⟨_, _, at_⟩
      · exact .inl (off b hb)
    · by_cases hb : b = a
      · subst hb
        rw [at_] at z
        cases z
        exact ⟨ha, by rw [List.length_map]; exact hl, vs, _, rv, ha⟩
      · rw [off b hb] at z
        cases z
theorem walk_ofG {l : PySem.W.OpenLaw} {n k : Nat} {q : Program} {loose : List Str} {XP : (Str → Option Value) → Heap → Prop} {YP : World → Heap → Prop} {d : DefRec} {CX : World → CXT} {x : Str}
    (hn : l.most = some n) (hn2 : n ≤ sizeLine) (hdf : d.params.defaults = []) (hr : Room k callerA)
    (F : ∀ (w : World) (mg : Str → Option Value) (fa : Addr) (h : Heap), YP w h → h.Ns mainGlobals mg → mg d.name = some (.ref fa) →
      ∃ (K : Frag) (kc : Kc) (fd : FuncData) (f : List O → FR), K.In h ∧ kc.K = K ∧ (∀ (s : Shared) (u : Value), BindsTo s fd ⟨[u], []⟩ [(x, u)]) ∧
        (∀ ns : List Int, ns.length ≤ n → ∃ outs, f [.fz (.list (ns.map .int))] = .ret (.fz (.bool true)) outs) ∧
        ∀ base : Heap, K.In base → base.Ns mainGlobals mg → FnG l.prog w K mg base (CX w) k fa fd [x] (spM kc 1 f))
    (hCX : ∀ (w : World) (H : Hp) (s : Shared) (e : Value) (s' : Shared), CX w [] H s (fun _ _ _ => False) e s' → False) :
    PySem.W.WalkO q loose XP YP l.row.toRowW d [] (fun f vs => PySem.call f vs) := by
  refine Att.attach_call hn hdf fun w s₀ s₁ mg mb fa o pm cd doc a vs ns G Y ho hd hcd hmg hobj hints hlen hg => ?_
  obtain ⟨K, kc, fd, f, KX, hk, hb, hsp, hF⟩ := F w mg fa _ Y G.T.g hmg
  refine law_callG KX G.T.g G.T.b G.T.builtins G.T.nolimit hg hobj hints (Nat.le_trans hlen hn2) hr hF hb (fun H hO hS => ?_) fun H e s' => hCX w H s₁ e s'
  subst hk
  obtain ⟨outs, e⟩ := hsp ns hlen
  have fle : FLe H H := fun a u e => .inl e
  have repI : ∀ ns : List Int, Reps kc.K H (ns.map V.int) (ns.map .int) := fun ns => by
    induction ns with
    | nil => exact .nil
    | cons i ns ih => exact .cons (.int i) ih
  refine ⟨rfl, H, [.fz (.list (ns.map .int))], [], .cons (S := []) (T := []) (.fz (.lst hS (repI ns))) .nil, ⟨fle, .nil, (fun a m => by cases m), (fun a m => by cases m), (fun a m => by cases m), (fun a m => by cases m), Same.refl _, fun a u z => .inl (by show H a ≠ none; rw [z]; simp), fun _ _ z _ => z, fun _ n => n⟩, ?_⟩
  rw [e]
  intro v H' z
  obtain ⟨F', S', p1, p2⟩ := z
  cases p1 with
  | cons w r =>
    cases w with
    | fz w =>
      cases w with
      | bl => rfl
      | dic _ _ e => cases e
      | dit _ _ e => cases e
end FM
namespace FM
open PySem PySem.Spec L2 PyProof.Rows
/-! ### a list or a tuple that is walked -/
def iAny (K : Frag) (tl : TE) : TI := fun σ H R => tl σ H fun x H1 => ∃ a, x = .ref a ∧ (((∃ xs, SqL K H1 a xs) ∧ R (Itl K a) H1) ∨ ((∃ xs, SqT K H1 a xs) ∧ R (Itt K a) H1))
theorem pi_any {X : Cx} {tg l : Expr} {tl : TE} (hl : PE X l tl) : PI X tg l (iAny X.K tl) := by
  refine ⟨fun pins s σ H R I h => thn (hl.run pins s σ H _ I h) fun v s1 ⟨x, H1, I1, r1, q1⟩ => ?_⟩
  obtain ⟨a, rfl, q1⟩ := q1
  cases r1
  have fp : ∀ b ∈ [s1.heap.objs.size], FpOk X pins H1 b := fun b hb => (List.mem_singleton.mp hb).symm ▸ I1.fpOk (Nat.le_refl _) (I1.hok.fresh (Nat.le_refl _))
  rcases q1 with ⟨⟨xs, hq⟩, q⟩ | ⟨⟨xs, hq⟩, q⟩
  · obtain ⟨its, rv, p, hz⟩ := I1.list hq
    exact wpAny_pyIter_list p.isList ⟨s1.heap.objs.size, [s1.heap.objs.size], _, _, H1, rfl, I1.kept (t' := s1.toks) fun b o e => Heap.get?_push_of_some _ e, turn_list a _, ⟨_, Heap.get?_push_size _ rfl, rfl, rfl⟩, fp, q⟩
  · obtain ⟨its, rv, p, hz⟩ := I1.tuple hq
    exact wpAny_pyIter_tuple (show s1.heap.IsTuple a its.toArray from p) ⟨s1.heap.objs.size, [s1.heap.objs.size], _, _, H1, rfl, I1.kept (t' := s1.toks) fun b o e => Heap.get?_push_of_some _ e, turn_tuple a _, ⟨_, Heap.get?_push_size _ rfl, rfl, rfl⟩, fp, q⟩
def fzA : O → Option (List PD)
  | .fz (.list ds) => some ds
  | .fz (.tuple ds) => some ds
  | .ktp ds => some ds
  | _ => none
def viA : O → Option (List PD)
  | .fz (.list ds) => some ds
  | .fz (.tuple ds) => some ds
  | .ktp ds => some ds
  | .lst ds => some ds
  | _ => none
theorem fzA_or {o : O} {ds : List PD} (e : fzA o = some ds) : fzL o = some ds ∨ seqR o = some ds := by
  unfold fzA at e
  split at e
  · exact .inl e
  · exact .inr e
  · exact .inr e
  · cases e
theorem viA_or {o : O} {ds : List PD} (e : viA o = some ds) : seqL o = some ds ∨ seqR o = some ds := by
  unfold viA at e
  split at e
  · exact .inl e
  · exact .inr e
  · exact .inr e
  · exact .inl e
  · cases e
def qItA (a : QE) : QI := fun ρ => match a ρ with
  | none => none
  | some x => viA x
def qIfA (a : QE) : QI := fun ρ => match a ρ with
  | none => none
  | some x => fzA x
section
variable {k : Kc} {E : XK} {te : TE} {qa : QE} {m : M O}
theorem tiv_any (ha : TEv k te qa) : TIv k (iAny k.K te) (qItA qa) := by
  intro F H σ ρ S ds R q e g
  unfold qItA at e
  cases e1 : qa ρ with
  | none => rw [e1] at e; cases e
  | some x =>
    rw [e1] at e
    refine ha F H σ ρ S x _ q e1 fun v F1 H1 x1 w1 => ?_
    rcases viA_or e with e | e
    · obtain ⟨a, vs, rfl, g1, g2⟩ := w1.seqL x1.fle e
      exact ⟨a, rfl, .inl ⟨⟨vs, g1⟩, g _ F1 H1 x1 (walkD_list (fun F2 H2 p f => ⟨sqL_sub p.ex g1, g2.sub p.sub⟩) g2.length)⟩⟩
    · obtain ⟨a, vs, rfl, g1, g2⟩ := w1.seqR x1.fle e
      exact ⟨a, rfl, .inr ⟨⟨vs, g1⟩, g _ F1 H1 x1 (walkD_tup (fun F2 H2 p f => ⟨sqT_sub p.ex g1, g2.sub p.sub⟩) g2.length)⟩⟩
theorem tif_any (ha : TEv k te qa) : TIf k (iAny k.K te) (qIfA qa) := by
  intro F H σ ρ S ds R q e g
  unfold qIfA at e
  cases e1 : qa ρ with
  | none => rw [e1] at e; cases e
  | some x =>
    rw [e1] at e
    refine ha F H σ ρ S x _ q e1 fun v F1 H1 x1 w1 => ?_
    rcases fzA_or e with e | e
    · obtain ⟨a, vs, rfl, g1, g2⟩ := w1.fzL e
      exact ⟨a, rfl, .inl ⟨⟨vs, sqL_le x1.fle g1⟩, g _ F1 H1 x1 (walkD_list (fun F2 H2 p f => ⟨sqL_le f (sqL_sub p g1), g2.sub p⟩) g2.length)⟩⟩
    · obtain ⟨a, vs, rfl, g1, g2⟩ := w1.fzR e
      exact ⟨a, rfl, .inr ⟨⟨vs, sqT_le x1.fle (g1 F1 (Same.refl _))⟩, g _ F1 H1 x1 (walkD_tup (fun F2 H2 p f => ⟨sqT_le f (g1 F2 p), g2.sub p⟩) g2.length)⟩⟩
def iAnyM (m : M O) : M (List PD) := fun ρ => match m ρ with
  | .ok o ρ1 => match fzA o with
    | some ds => .ok ds ρ1
    | none => .bad
  | .exc x ρ1 => .exc x ρ1
  | .bad => .bad
theorem tim_any (h : TEm k E te m) : TIm k E (iAny k.K te) (iAnyM m) := by
  intro P e σ ρ vs os H R s g
  refine h P e σ ρ vs os H _ s ?_
  unfold iAnyM at g
  cases e1 : m ρ with
  | exc x ρ1 => rw [e1] at g; exact g
  | bad => rw [e1] at g; exact g
  | ok o ρ1 =>
    rw [e1] at g
    intro v H1 s1
    simp only at g
    cases e2 : fzA o with
    | none => rw [e2] at g; exact g.elim
    | some ds =>
      rw [e2] at g
      obtain ⟨F, S1, S2, env, tmp, fr, pin⟩ := s1
      cases tmp with
      | @cons _ _ _ _ T U w r =>
        have s2 : StW k P e σ ρ1 vs os F H1 S1 U := ⟨env, r, fr.sub (List.Sublist.append (.refl _) (List.sublist_append_right _ _)), pin⟩
        have vw : Vw k F H1 T v o := ⟨T, fun _ z => z, w⟩
        rcases fzA_or e2 with e3 | e3
        · obtain ⟨a, vs, rfl, g1, g2⟩ := vw.fzL e3
          exact ⟨a, rfl, .inl ⟨⟨vs, sqL_le fr.fle g1⟩, g _ F H1 S1 U s2 (walkD_list (fun F2 H2 p f => ⟨sqL_le f (sqL_sub p g1), g2.sub p⟩) g2.length)⟩⟩
        · obtain ⟨a, vs, rfl, g1, g2⟩ := vw.fzR e3
          exact ⟨a, rfl, .inr ⟨⟨vs, sqT_le fr.fle (g1 F (Same.refl _))⟩, g _ F H1 S1 U s2 (walkD_tup (fun F2 H2 p f => ⟨sqT_le f (g1 F2 p), g2.sub p⟩) g2.length)⟩⟩
end
/-! ### calls by name -/
theorem RoomG.u1 {k : Nat} {A : Around} (r : RoomG k A) : A.units + 1 < cLine := by have := r.rm.un; omega
theorem RoomG.u64 {k : Nat} {A : Around} (r : RoomG k A) : A.units + 64 < cLine := by have := r.rm.un; omega
theorem RoomG.u65 {k : Nat} {A : Around} (r : RoomG k A) : A.units + 65 < cLine := by have := r.rm.un; omega
theorem RoomG.u68 {k : Nat} {A : Around} (r : RoomG k A) : A.units + 68 < cLine := by have := r.rm.un; omega
abbrev CXg (P : Program) (w : World) : CXT := L2.CX P w
structure CalG (P : Program) (w : World) (K : Frag) (mg : Str → Option Value) (base : Heap) (k : Nat) (x : Str) (sp : Sp) : Prop where
  ex : ∃ (f : Addr) (fd : FuncData) (ps : List Str), FnG P w K mg base (CXg P w) k f fd ps sp ∧ mg x = some (.ref f) ∧ PySem.W.keepIn K (.ref f) = true ∧ Binds K fd ps []
section
variable {P : Program} {w : World} {K : Frag} {mg : Str → Option Value} {base : Heap} {k : Nat} {x : Str}
theorem CalG.quiet {kc : Kc} {n : Nat} {g : List O → FR} (c : CalG P w K mg base k x (spM kc n g)) : CalG P w K mg base k x (spQ kc n (qOf g)) :=
  let ⟨f, fd, ps, F, h⟩ := c.ex
  ⟨f, fd, ps, F.quiet, h⟩
end
section
variable {X : Cx} {j k : Nat} {sp : Sp} {E : XK} {x : Str} {p pos : Pos} {e : Expr} {es : List Expr} {t : TA}
theorem pe_g (c : CalG X.prog X.w X.K X.mg X.base k x sp) (hr : RoomG j X.A) (hk : k ≤ j) (hx : Passes (CXg X.prog X.w) X E) (hg : Gl X x) (ha : PA X (e :: es) t)
    (hdb : (x == ("__debug__" : Str)) = false := by decide) (he : starEach (e :: es) X.env = (false, eval e X.env) :: starEach es X.env := by rfl) (hpl : (backTo pos (starEach es X.env)).any (·.1) = false := by rfl) : PE X (.Call (.Name x p) (e :: es) [] pos) (tCall sp [] E t) := by
  obtain ⟨f, fd, ps, F, hm, kp, b⟩ := c.ex
  exact pe_callG F (hr.mono hk) hg hm kp b .nil hx ha hdb he hpl
theorem pe_g0 (c : CalG X.prog X.w X.K X.mg X.base k x sp) (hr : RoomG j X.A) (hk : k ≤ j) (hx : Passes (CXg X.prog X.w) X E) (hg : Gl X x)
    (hdb : (x == ("__debug__" : Str)) = false := by decide) : PE X (.Call (.Name x p) [] [] pos) (tCall sp [] E tNil) := by
  obtain ⟨f, fd, ps, F, hm, kp, b⟩ := c.ex
  exact pe_call0G F (hr.mono hk) hg hm kp b .nil hx hdb
end
theorem qlen_nil (ρ os : List O) (e : qNil ρ = some os) : os.length = 0 := by
  have e' := Option.some.inj e
  rw [← e']
  rfl
theorem qlen_cons {a : QE} {r : List O → Option (List O)} {n : Nat} (h : ∀ ρ os, r ρ = some os → os.length = n) (ρ os : List O) (e : qCons a r ρ = some os) : os.length = n + 1 := by
  unfold qCons at e
  split at e
  · cases e
  · split at e
    · cases e
    · rename_i e2
      have e' := Option.some.inj e
      rw [← e', List.length_cons, h _ _ e2]
theorem cx_none {P : Program} {w : World} (H : Hp) (s : Shared) (e : Value) (s' : Shared) (h : CXg P w [] H s E0 e s') : False := by
  obtain ⟨_, _, _, _, _, _, _, _, _, _, _, _, z⟩ := h
  exact z
end FM
namespace FM
open PySem PySem.Spec L2 PyProof.Rows
/-! ### what a mirror comes to -/
def wM {α : Type} (r : R α) (Q : α → List O → Prop) : Prop := match r with
  | .ok a ρ => Q a ρ
  | _ => False
def wS (r : RS) (nx : List O → Prop) (rt : O → List O → Prop) (bk ct : List O → Prop) : Prop := match r with
  | .next ρ => nx ρ
  | .ret o ρ => rt o ρ
  | .brk ρ => bk ρ
  | .cont ρ => ct ρ
  | _ => False
def wF (r : FR) (Q : O → List O → Prop) : Prop := match r with
  | .ret o outs => Q o outs
  | _ => False
section
variable {ρ : List O} {Q : O → List O → Prop} {nx bk ct : List O → Prop} {rt : O → List O → Prop} {q : QE} {m m1 m2 : M O} {c : M Bool} {a b : MS} {QB : Bool → List O → Prop} {QL : List O → List O → Prop} {ml : M (List O)}
@[simp] theorem wM_ok {α : Type} {x : α} {Q : α → List O → Prop} : wM (.ok x ρ) Q = Q x ρ := rfl
@[simp] theorem wM_lift : wM (mLift q ρ) Q = ∃ d, q ρ = some (.fz d) ∧ Q (.fz d) ρ := by
  unfold mLift
  apply propext
  split
  · rename_i d e
    exact ⟨fun h => ⟨d, e, h⟩, fun ⟨d', e', h⟩ => by rw [e] at e'; cases e'; exact h⟩
  · rename_i hn
    exact ⟨fun h => h.elim, fun ⟨d', e', h⟩ => (hn d' e').elim⟩
@[simp] theorem wM_new : wM (mNew q ρ) Q = ∃ o, q ρ = some o ∧ Q o ρ := by
  unfold mNew
  cases e : q ρ <;> simp [wM]
@[simp] theorem wM_frz : wM (frzM m ρ) Q = wM (m ρ) fun o ρ1 => ∃ d, toPD o = some d ∧ Q (.fz d) ρ1 := by
  unfold frzM
  cases e : m ρ with
  | ok o ρ1 =>
    simp only [wM_ok]
    cases e2 : toPD o <;> simp [wM]
  | _ => rfl
@[simp] theorem wM_move {i : Nat} : wM (mMove i ρ) Q = ∃ o, qVar i ρ = some o ∧ Q o (ρ.set i .dead) := by
  unfold mMove
  cases e : qVar i ρ <;> simp [wM]
@[simp] theorem wM_gz {i : Nat} : wM (mGz i m ρ) Q = wM (m (frzO i ρ)) Q := rfl
@[simp] theorem wS_gz {i : Nat} : wS (sGz i a ρ) nx rt bk ct = wS (a (frzO i ρ)) nx rt bk ct := rfl
@[simp] theorem wM_op {f : O → O → Option O} : wM (mOp f m1 m2 ρ) Q = wM (m1 ρ) fun o1 ρ1 => ∃ d1, o1 = .fz d1 ∧ wM (m2 ρ1) fun o2 ρ2 => ∃ d2, o2 = .fz d2 ∧ ∃ d, f (.fz d1) (.fz d2) = some (.fz d) ∧ Q (.fz d) ρ2 := by
  unfold mOp
  cases e : m1 ρ with
  | ok o ρ1 =>
    cases o with
    | fz d1 =>
      simp only [wM_ok]
      cases e2 : m2 ρ1 with
      | ok o2 ρ2 =>
        cases o2 with
        | fz d2 =>
          cases e3 : f (.fz d1) (.fz d2) with
          | none => simp [wM, e2, e3]
          | some z => cases z <;> simp [wM, e2, e3]
        | _ => simp [wM, e2]
      | _ => simp [wM, e2]
    | _ => simp [wM]
  | _ => simp [wM]
@[simp] theorem wM_opV {f : O → O → Option O} : wM (mOpV f m1 q ρ) Q = wM (m1 ρ) fun o1 ρ1 => ∃ d1, o1 = .fz d1 ∧ ∃ o2, q ρ1 = some o2 ∧ ∃ d, f (.fz d1) o2 = some (.fz d) ∧ Q (.fz d) ρ1 := by
  unfold mOpV
  cases e : m1 ρ with
  | ok o ρ1 =>
    cases o with
    | fz d1 =>
      cases e2 : q ρ1 with
      | none => simp [wM, e2]
      | some o2 =>
        cases e3 : f (.fz d1) o2 with
        | none => simp [wM, e2, e3]
        | some z => cases z <;> simp [wM, e2, e3]
    | _ => simp [wM]
  | _ => simp [wM]
@[simp] theorem wM_opS {f : O → O → Option O} {i : Nat} : wM (mOpS f i m2 ρ) Q = ((∃ o0, qVar i ρ = some o0) ∧ wM (m2 ρ) fun o2 ρ1 => ∃ d2, o2 = .fz d2 ∧ ∃ o1, qVar i ρ1 = some o1 ∧ ∃ d, f o1 (.fz d2) = some (.fz d) ∧ Q (.fz d) ρ1) := by
  unfold mOpS
  cases e0 : qVar i ρ with
  | none => simp [wM]
  | some o0 =>
    cases e : m2 ρ with
    | ok o ρ1 =>
      cases o with
      | fz d2 =>
        cases e2 : qVar i ρ1 with
        | none => simp [wM, e2]
        | some o1 =>
          cases e3 : f o1 (.fz d2) with
          | none => simp [wM, e2, e3]
          | some z => cases z <;> simp [wM, e2, e3]
      | _ => simp [wM]
    | _ => simp [wM]
@[simp] theorem wM_un {f : O → Option O} : wM (mUn f m ρ) Q = wM (m ρ) fun o1 ρ1 => ∃ d1, o1 = .fz d1 ∧ ∃ d, f (.fz d1) = some (.fz d) ∧ Q (.fz d) ρ1 := by
  unfold mUn
  cases e : m ρ with
  | ok o ρ1 =>
    cases o with
    | fz d1 =>
      cases e3 : f (.fz d1) with
      | none => simp [wM, e3]
      | some z => cases z <;> simp [wM, e3]
    | _ => simp [wM]
  | _ => simp [wM]
@[simp] theorem wM_if : wM (mIf c m1 m2 ρ) Q = wM (c ρ) fun t ρ1 => (t = true → wM (m1 ρ1) Q) ∧ (t = false → wM (m2 ρ1) Q) := by
  unfold mIf
  cases e : c ρ with
  | ok t ρ1 => cases t <;> simp
  | _ => rfl
@[simp] theorem wM_and : wM (mAnd m1 m2 ρ) Q = wM (m1 ρ) fun o ρ1 => ∃ t, o = .fz (.bool t) ∧ (t = true → wM (m2 ρ1) Q) ∧ (t = false → Q (.fz (.bool false)) ρ1) := by
  unfold mAnd
  cases e : m1 ρ with
  | ok o ρ1 =>
    cases o with
    | fz d =>
      cases d with
      | bool t => cases t <;> simp
      | _ => simp [wM]
    | _ => simp [wM]
  | _ => rfl
@[simp] theorem wM_or : wM (mOr m1 m2 ρ) Q = wM (m1 ρ) fun o ρ1 => ∃ t, o = .fz (.bool t) ∧ (t = false → wM (m2 ρ1) Q) ∧ (t = true → Q (.fz (.bool true)) ρ1) := by
  unfold mOr
  cases e : m1 ρ with
  | ok o ρ1 =>
    cases o with
    | fz d =>
      cases d with
      | bool t => cases t <;> simp
      | _ => simp [wM]
    | _ => simp [wM]
  | _ => rfl
@[simp] theorem wM_not : wM (mNot m ρ) Q = wM (m ρ) fun o ρ1 => ∃ t, o = .fz (.bool t) ∧ Q (.fz (.bool (!t))) ρ1 := by
  unfold mNot
  cases e : m ρ with
  | ok o ρ1 =>
    cases o with
    | fz d =>
      cases d with
      | bool t => cases t <;> simp
      | _ => simp [wM]
    | _ => simp [wM]
  | _ => rfl
@[simp] theorem wM_bLift {q : List O → Option Bool} : wM (bLift q ρ) QB = ∃ t, q ρ = some t ∧ QB t ρ := by
  unfold bLift
  cases e : q ρ <;> simp [wM]
@[simp] theorem wM_bTest : wM (bTest m ρ) QB = wM (m ρ) fun o ρ1 => ∃ t, o = .fz (.bool t) ∧ QB t ρ1 := by
  unfold bTest
  cases e : m ρ with
  | ok o ρ1 =>
    cases o with
    | fz d =>
      cases d with
      | bool t => cases t <;> simp
      | _ => simp [wM]
    | _ => simp [wM]
  | _ => rfl
@[simp] theorem wM_bAnd {d : M Bool} : wM (bAnd c d ρ) QB = wM (c ρ) fun t ρ1 => (t = true → wM (d ρ1) QB) ∧ (t = false → QB false ρ1) := by
  unfold bAnd
  cases e : c ρ with
  | ok t ρ1 => cases t <;> simp
  | _ => rfl
@[simp] theorem wM_bOr {d : M Bool} : wM (bOr c d ρ) QB = wM (c ρ) fun t ρ1 => (t = false → wM (d ρ1) QB) ∧ (t = true → QB true ρ1) := by
  unfold bOr
  cases e : c ρ with
  | ok t ρ1 => cases t <;> simp
  | _ => rfl
@[simp] theorem wM_bNot : wM (bNot c ρ) QB = wM (c ρ) fun t ρ1 => QB (!t) ρ1 := by
  unfold bNot
  cases e : c ρ <;> rfl
@[simp] theorem wM_nil : wM (mNil ρ) QL = QL [] ρ := rfl
@[simp] theorem wM_cons : wM (mCons m ml ρ) QL = wM (m ρ) fun o ρ1 => wM (ml ρ1) fun xs ρ2 => QL (o :: xs) ρ2 := by
  unfold mCons
  cases e : m ρ with
  | ok o ρ1 =>
    simp only [wM_ok]
    cases e2 : ml ρ1 <;> rfl
  | _ => rfl
@[simp] theorem wM_ref {i : Nat} : wM (mRef i ml ρ) QL = ((∃ o, qVar i ρ = some o) ∧ wM (ml ρ) fun xs ρ2 => QL (.dead :: xs) ρ2) := by
  unfold mRef
  cases e : qVar i ρ with
  | none => simp [wM]
  | some o =>
    cases e2 : ml ρ <;> simp [wM]
@[simp] theorem wM_call {f : List O → FR} {as : List (Option Nat)} : wM (mCall f as ml ρ) Q = wM (ml ρ) fun xs ρ1 => match fillA as xs ρ1 with
    | some z => wF (f z.1) fun o outs => Q o (backA as outs z.2)
    | none => False := by
  unfold mCall
  cases e : ml ρ with
  | ok xs ρ1 =>
    simp only [wM_ok]
    cases e2 : fillA as xs ρ1 with
    | none => simp [wM]
    | some z =>
      simp only
      cases e3 : f z.1 <;> simp [wM, wF, e3]
  | _ => rfl
@[simp] theorem wM_tup : wM (mTup ml ρ) Q = wM (ml ρ) fun xs ρ1 => xs.length ≤ sizeLine ∧ match fzs xs with
    | some ds => Q (.fz (.tuple ds)) ρ1
    | none => Q (.ntp xs) ρ1 := by
  unfold mTup
  cases e : ml ρ with
  | ok xs ρ1 =>
    simp only [wM_ok]
    split
    · rename_i h
      cases e2 : fzs xs <;> simp [h]
    · rename_i h
      simp [wM, h]
  | _ => rfl
@[simp] theorem wM_lst : wM (mLst ml ρ) Q = wM (ml ρ) fun xs ρ1 => xs.length ≤ sizeLine ∧ match fzs xs with
    | some ds => Q (.lst ds) ρ1
    | none => Q (.nst xs) ρ1 := by
  unfold mLst
  cases e : ml ρ with
  | ok xs ρ1 =>
    simp only [wM_ok]
    split
    · rename_i h
      cases e2 : fzs xs <;> simp [h]
    · rename_i h
      simp [wM, h]
  | _ => rfl
@[simp] theorem wM_cb {f : List O → Option O} : wM (mCb f ml ρ) Q = wM (ml ρ) fun xs ρ1 => ∃ ds, fzs xs = some ds ∧ ∃ d, f (ds.map .fz) = some (.fz d) ∧ Q (.fz d) ρ1 := by
  unfold mCb
  cases e : ml ρ with
  | ok xs ρ1 =>
    simp only [wM_ok]
    cases e2 : fzs xs with
    | none => simp [wM]
    | some ds =>
      cases e3 : f (ds.map .fz) with
      | none => simp [wM, e3]
      | some z => cases z <;> simp [wM, e3]
  | _ => rfl
@[simp] theorem wM_cbN {f : List O → Option O} : wM (mCbN f ml ρ) Q = wM (ml ρ) fun xs ρ1 => ∃ ds, fzs xs = some ds ∧ ∃ o, f (ds.map .fz) = some o ∧ Q o ρ1 := by
  unfold mCbN
  cases e : ml ρ with
  | ok xs ρ1 =>
    simp only [wM_ok]
    cases e2 : fzs xs with
    | none => simp [wM]
    | some ds => cases e3 : f (ds.map .fz) <;> simp [wM, e3]
  | _ => rfl
@[simp] theorem wM_pNo {Q : Option Int → List O → Prop} : wM (pNo ρ) Q = Q none ρ := rfl
@[simp] theorem wM_pPart {Q : Option Int → List O → Prop} : wM (pPart m ρ) Q = wM (m ρ) fun o ρ1 => ∃ i, o = .fz (.int i) ∧ Q (some i) ρ1 := by
  unfold pPart
  cases e : m ρ with
  | ok o ρ1 =>
    cases o with
    | fz d =>
      cases d with
      | int t => simp
      | _ => simp [wM]
    | _ => simp [wM]
  | _ => rfl
@[simp] theorem wM_sl {pl ph : M (Option Int)} : wM (mSl m pl ph ρ) Q = wM (m ρ) fun o ρ1 => ∃ d, o = .fz d ∧ wM (pl ρ1) fun lo ρ2 => wM (ph ρ2) fun hi ρ3 => ∃ d', oSl (.fz d) lo hi = some (.fz d') ∧ Q (.fz d') ρ3 := by
  unfold mSl
  cases e : m ρ with
  | ok o ρ1 =>
    cases o with
    | fz d =>
      simp only [wM_ok]
      cases e2 : pl ρ1 with
      | ok lo ρ2 =>
        simp only [wM_ok]
        cases e3 : ph ρ2 with
        | ok hi ρ3 =>
          cases e4 : oSl (.fz d) lo hi with
          | none => simp [wM, e2, e3, e4]
          | some z => cases z <;> simp [wM, e2, e3, e4]
        | _ => simp [wM, e2, e3]
      | _ => simp [wM, e2]
    | _ => simp [wM]
  | _ => rfl
@[simp] theorem wM_mt {i : Nat} {f : List PD → List PD → Option (PD × List PD)} : wM (mMt i f ml ρ) Q = ((∃ ds, qVar i ρ = some (.lst ds)) ∧ wM (ml ρ) fun xs ρ1 => ∃ zs, fzs xs = some zs ∧ ∃ ds, qVar i ρ1 = some (.lst ds) ∧ ∃ d ds', f ds zs = some (d, ds') ∧ Q (.fz d) (ρ1.set i (.lst ds'))) := by
  unfold mMt
  cases e0 : qVar i ρ with
  | none => simp [wM]
  | some o0 =>
    cases o0 with
    | lst ds0 =>
      cases e : ml ρ with
      | ok xs ρ1 =>
        simp only [wM_ok]
        cases e2 : fzs xs with
        | none => simp [wM]
        | some zs =>
          simp only
          cases e3 : qVar i ρ1 with
          | none => simp [wM, e3]
          | some o1 =>
            cases o1 with
            | lst ds =>
              cases e4 : f ds zs with
              | none => simp [wM, e3, e4]
              | some r => obtain ⟨d, ds'⟩ := r; simp [wM, e3, e4]; exact ⟨fun h => ⟨d, ds', ⟨rfl, rfl⟩, h⟩, fun ⟨_, _, ⟨e1, e2⟩, h⟩ => by rw [e1, e2]; exact h⟩
            | _ => simp [wM, e3]
      | _ => simp [wM]
    | _ => simp [wM]
@[simp] theorem wM_mt0 {i : Nat} {f : List PD → List PD → Option (PD × List PD)} : wM (mMt0 i f ρ) Q = ∃ ds, qVar i ρ = some (.lst ds) ∧ ∃ d ds', f ds [] = some (d, ds') ∧ Q (.fz d) (ρ.set i (.lst ds')) := by
  unfold mMt0
  cases e0 : qVar i ρ with
  | none => simp [wM]
  | some o0 =>
    cases o0 with
    | lst ds =>
      cases e4 : f ds [] with
      | none => simp [wM, e4]
      | some r => obtain ⟨d, ds'⟩ := r; simp [wM, e4]; exact ⟨fun h => ⟨d, ds', ⟨rfl, rfl⟩, h⟩, fun ⟨_, _, ⟨e1, e2⟩, h⟩ => by rw [e1, e2]; exact h⟩
    | _ => simp [wM]
@[simp] theorem wM_iLift {q : QI} {Q : List PD → List O → Prop} : wM (iLift q ρ) Q = ∃ ds, q ρ = some ds ∧ Q ds ρ := by
  unfold iLift
  cases e : q ρ <;> simp [wM]
@[simp] theorem wM_iAnyM {Q : List PD → List O → Prop} : wM (iAnyM m ρ) Q = wM (m ρ) fun o ρ1 => ∃ ds, fzA o = some ds ∧ Q ds ρ1 := by
  unfold iAnyM
  cases e : m ρ with
  | ok o ρ1 => cases e2 : fzA o <;> simp [wM, e2]
  | _ => rfl
/-! statements -/
@[simp] theorem wS_next : wS (sNext ρ) nx rt bk ct = nx ρ := rfl
theorem wS_seq : wS (sSeq a b ρ) nx rt bk ct = wS (a ρ) (fun ρ1 => wS (b ρ1) nx rt bk ct) rt bk ct := by
  unfold sSeq
  cases e : a ρ <;> rfl
@[simp] theorem wS_drop : wS (sDrop m ρ) nx rt bk ct = wM (m ρ) fun _ ρ1 => nx ρ1 := by
  unfold sDrop
  cases e : m ρ <;> rfl
@[simp] theorem wS_ret : wS (sRet m ρ) nx rt bk ct = wM (m ρ) rt := by
  unfold sRet
  cases e : m ρ <;> rfl
@[simp] theorem wS_retN : wS (sRetN ρ) nx rt bk ct = rt (.fz .none) ρ := rfl
@[simp] theorem wS_brk : wS (sBrk ρ) nx rt bk ct = bk ρ := rfl
@[simp] theorem wS_cont : wS (sCont ρ) nx rt bk ct = ct ρ := rfl
@[simp] theorem wS_set {j : Nat} : wS (sSet j m ρ) nx rt bk ct = wM (m ρ) fun o ρ1 => nx (ρ1.set j o) := by
  unfold sSet
  cases e : m ρ <;> rfl
@[simp] theorem wS_asg {f : QG} : wS (sAsg f m ρ) nx rt bk ct = wM (m ρ) fun o ρ1 => ∃ d, o = .fz d ∧ ∃ ρ2, f d ρ1 = some ρ2 ∧ nx ρ2 := by
  unfold sAsg
  cases e : m ρ with
  | ok o ρ1 =>
    cases o with
    | fz d => cases e2 : f d ρ1 <;> simp [wS, e2]
    | _ => simp [wS]
  | _ => rfl
@[simp] theorem wS_par {i j : Nat} : wS (sPar i j ml ρ) nx rt bk ct = wM (ml ρ) fun xs ρ1 => match xs with
    | [o1, o2] => nx ((ρ1.set i o1).set j o2)
    | _ => False := by
  unfold sPar
  cases e : ml ρ with
  | ok xs ρ1 =>
    match xs with
    | [] => simp [wS]
    | [_] => simp [wS]
    | [o1, o2] => simp [wS]
    | _ :: _ :: _ :: _ => simp [wS]
  | _ => rfl
@[simp] theorem wS_par3 {i j l : Nat} : wS (sPar3 i j l ml ρ) nx rt bk ct = wM (ml ρ) fun xs ρ1 => match xs with
    | [o1, o2, o3] => nx (((ρ1.set i o1).set j o2).set l o3)
    | _ => False := by
  unfold sPar3
  cases e : ml ρ with
  | ok xs ρ1 =>
    match xs with
    | [] => simp [wS]
    | [_] => simp [wS]
    | [_, _] => simp [wS]
    | [o1, o2, o3] => simp [wS]
    | _ :: _ :: _ :: _ :: _ => simp [wS]
  | _ => rfl
@[simp] theorem wS_if : wS (sIf c a b ρ) nx rt bk ct = wM (c ρ) fun t ρ1 => (t = true → wS (a ρ1) nx rt bk ct) ∧ (t = false → wS (b ρ1) nx rt bk ct) := by
  unfold sIf
  cases e : c ρ with
  | ok t ρ1 => cases t <;> simp
  | _ => rfl
@[simp] theorem wS_setI {s : Nat} {qi : QE} : wS (sSetI s qi m ρ) nx rt bk ct = wM (m ρ) fun o ρ1 => ∃ d, o = .fz d ∧ ∃ ds, qVar s ρ1 = some (.lst ds) ∧ ∃ i, qi ρ1 = some (.fz i) ∧ ∃ ds', fSetI ds i d = some ds' ∧ nx (ρ1.set s (.lst ds')) := by
  unfold sSetI
  cases e : m ρ with
  | ok o ρ1 =>
    cases o with
    | fz d =>
      simp only [wM_ok]
      cases e2 : qVar s ρ1 with
      | none => simp [wS, e2]
      | some z =>
        cases z with
        | lst ds =>
          cases e3 : qi ρ1 with
          | none => simp [wS, e2, e3]
          | some y =>
            cases y with
            | fz i => cases e4 : fSetI ds i d <;> simp [wS, e2, e3, e4]
            | _ => simp [wS, e2, e3]
        | _ => simp [wS, e2]
    | _ => simp [wS]
  | _ => rfl
@[simp] theorem wS_for {mi : M (List PD)} {f : QG} : wS (sFor mi f a ρ) nx rt bk ct = wM (mi ρ) fun ds ρ1 => wS (forGo f a ds ρ1) nx rt bk ct := by
  unfold sFor
  cases e : mi ρ <;> rfl
@[simp] theorem wF_defN {more : Nat} {io : List Bool} {os : List O} : wF (defN more io a os) Q = wS (a (os ++ deadN more)) (fun ρ => Q (.fz .none) (outsE io ρ)) (fun o ρ => Q o (outsE io ρ)) (fun _ => False) (fun _ => False) := by
  unfold defN
  cases e : a (os ++ deadN more) <;> rfl
theorem wS_mono {r : RS} {nx' bk' ct' : List O → Prop} {rt' : O → List O → Prop} (h : wS r nx rt bk ct) (h1 : ∀ ρ, nx ρ → nx' ρ) (h2 : ∀ o ρ, rt o ρ → rt' o ρ) (h3 : ∀ ρ, bk ρ → bk' ρ) (h4 : ∀ ρ, ct ρ → ct' ρ) : wS r nx' rt' bk' ct' := by
  cases r with
  | next ρ => exact h1 _ h
  | ret o ρ => exact h2 _ _ h
  | brk ρ => exact h3 _ h
  | cont ρ => exact h4 _ h
  | _ => exact h
theorem wF_mono {r : FR} {Q' : O → List O → Prop} (h : wF r Q) (h1 : ∀ o ρ, Q o ρ → Q' o ρ) : wF r Q' := by
  cases r with
  | ret o ρ => exact h1 _ _ h
  | _ => exact h
/-- for, by an invariant -/
theorem for_inv {f : QG} (I : Nat → List O → Prop) : ∀ (xs : List PD) (k : Nat) (ρ : List O), I k ρ → (∀ i x ρ, xs[i]? = some x → I (k + i) ρ → ∃ ρ1, f x ρ = some ρ1 ∧ wS (a ρ1) (I (k + i + 1)) rt nx (I (k + i + 1))) → (∀ ρ, I (k + xs.length) ρ → nx ρ) → wS (forGo f a xs ρ) nx rt bk ct
  | [], k, ρ, h0, _, he => he ρ h0
  | x :: xs, k, ρ, h0, hs, he => by
    obtain ⟨ρ1, e1, h1⟩ := hs 0 x ρ rfl h0
    unfold forGo
    rw [e1]
    simp only
    have go : ∀ ρ2, I (k + 1) ρ2 → wS (forGo f a xs ρ2) nx rt bk ct := fun ρ2 h2 => for_inv I xs (k + 1) ρ2 h2 (fun i y ρ3 ey h3 => by
      have := hs (i + 1) y ρ3 (by simpa using ey) (by rw [show k + (i + 1) = k + 1 + i by omega]; exact h3)
      rw [show k + (i + 1) = k + 1 + i by omega] at this
      exact this) fun ρ3 h3 => he ρ3 (by rw [show k + (x :: xs).length = k + 1 + xs.length by simp; omega]; exact h3)
    cases e2 : a ρ1 with
    | next ρ2 => rw [e2] at h1; exact go ρ2 h1
    | cont ρ2 => rw [e2] at h1; exact go ρ2 h1
    | brk ρ2 => rw [e2] at h1; exact h1
    | ret o ρ2 => rw [e2] at h1; exact h1
    | exc x ρ2 => rw [e2] at h1; exact h1.elim
    | bad => rw [e2] at h1; exact h1.elim
theorem wS_forI {f : QG} {xs : List PD} (I : Nat → List O → Prop) (h0 : I 0 ρ) (hs : ∀ i x ρ, xs[i]? = some x → I i ρ → ∃ ρ1, f x ρ = some ρ1 ∧ wS (a ρ1) (I (i + 1)) rt nx (I (i + 1))) (he : ∀ ρ, I xs.length ρ → nx ρ) : wS (forGo f a xs ρ) nx rt bk ct :=
  for_inv I xs 0 ρ h0 (fun i x ρ ex h => by rw [Nat.zero_add] at h ⊢; exact hs i x ρ ex h) fun ρ h => he ρ (by rw [Nat.zero_add] at h; exact h)
theorem wS_whileI (I : Nat → List O → Prop) (n : Nat) (h0 : I n ρ) (hs : ∀ n ρ, I n ρ → wM (c ρ) fun t ρ1 => (t = false → nx ρ1) ∧ (t = true → wS (a ρ1) (fun ρ2 => ∃ m, m < n ∧ I m ρ2) rt nx (fun ρ2 => ∃ m, m < n ∧ I m ρ2))) : wS (sWhile c a ρ) nx rt bk ct := by
  induction n using Nat.strongRecOn generalizing ρ with
  | ind n ih =>
    have h := hs n ρ h0
    rw [sWhile_eq]
    unfold whileStep
    cases e : c ρ with
    | bad => rw [e] at h; exact h.elim
    | exc x ρ1 => rw [e] at h; exact h.elim
    | ok t ρ1 =>
      rw [e] at h
      cases t with
      | false => exact h.1 rfl
      | true =>
        have h := h.2 rfl
        simp only
        cases e2 : a ρ1 with
        | next ρ2 => rw [e2] at h; obtain ⟨m, l, q⟩ := h; exact ih m l q
        | cont ρ2 => rw [e2] at h; obtain ⟨m, l, q⟩ := h; exact ih m l q
        | brk ρ2 => rw [e2] at h; exact h
        | ret o ρ2 => rw [e2] at h; exact h
        | exc x ρ2 => rw [e2] at h; exact h.elim
        | bad => rw [e2] at h; exact h.elim
theorem qof_of {f : List O → FR} {ds : List PD} {d : PD} (h : wF (f (ds.map .fz)) fun o _ => toPD o = some d) : qOf f ds = some d := by
  unfold qOf
  cases e : f (ds.map .fz) with
  | ret o outs => rw [e] at h; exact h
  | _ => rw [e] at h; exact h.elim
theorem law_of {f : List O → FR} {os : List O} (h : wF (f os) fun o _ => o = .fz (.bool true)) : ∃ outs, f os = .ret (.fz (.bool true)) outs := by
  cases e : f os with
  | ret o outs =>
    rw [e] at h
    have h' : o = _ := h
    rw [h']
    exact ⟨outs, rfl⟩
  | _ => rw [e] at h; exact h.elim
end
end FM
namespace FM
open PySem PySem.Spec L2 PyProof.Rows
/-! ### words at written-out slots -/
section
variable {ρ : List O} {o : O} {i j : Int}
@[simp] theorem qVar_fz {d : PD} : qVar 0 (.fz d :: ρ) = some (.fz d) := rfl
@[simp] theorem qVar_lst {ds : List PD} : qVar 0 (.lst ds :: ρ) = some (.lst ds) := rfl
@[simp] theorem qVar_dic {ds : List (Key × PD)} : qVar 0 (.dic ds :: ρ) = some (.dic ds) := rfl
@[simp] theorem qVar_dit {ds : List (List Key × PD)} : qVar 0 (.dit ds :: ρ) = some (.dit ds) := rfl
@[simp] theorem qVar_nst {ds : List O} : qVar 0 (.nst ds :: ρ) = some (.nst ds) := rfl
@[simp] theorem qVar_ntp {ds : List O} : qVar 0 (.ntp ds :: ρ) = some (.ntp ds) := rfl
@[simp] theorem qVar_ins {c : Nat} {fs : List (Str × O)} : qVar 0 (.ins c fs :: ρ) = some (.ins c fs) := rfl
@[simp] theorem qVar_dead : qVar 0 (.dead :: ρ) = none := rfl
@[simp] theorem qVar_succ {n : Nat} : qVar (n + 1) (o :: ρ) = qVar n ρ := by
  unfold qVar
  rw [List.getElem?_cons_succ]
@[simp] theorem qC_eq {d : PD} : qC d ρ = some (.fz d) := rfl
@[simp] theorem fzs_nil : fzs [] = some [] := rfl
@[simp] theorem fzs_cons {d : PD} : fzs (.fz d :: ρ) = (fzs ρ).map (d :: ·) := rfl
@[simp] theorem fzs_lst {d : List PD} : fzs (.lst d :: ρ) = none := rfl
@[simp] theorem fzs_dead : fzs (.dead :: ρ) = none := rfl
@[simp] theorem toPD_fz {d : PD} : toPD (.fz d) = some d := rfl
@[simp] theorem toPD_lst {d : List PD} : toPD (.lst d) = some (.list d) := rfl
@[simp] theorem deadN_zero : deadN 0 = [] := rfl
@[simp] theorem deadN_succ {n : Nat} : deadN (n + 1) = .dead :: deadN n := rfl
@[simp] theorem outsE_nil : outsE [] ρ = [] := rfl
@[simp] theorem outsE_t {io : List Bool} : outsE (true :: io) (o :: ρ) = o :: outsE io ρ := rfl
@[simp] theorem outsE_f {io : List Bool} : outsE (false :: io) (o :: ρ) = .dead :: outsE io ρ := rfl
@[simp] theorem fillA_nil : fillA [] [] ρ = some ([], ρ) := rfl
@[simp] theorem fillA_n {as : List (Option Nat)} {xs : List O} : fillA (none :: as) (o :: xs) ρ = (fillA as xs ρ).map fun z => (o :: z.1, z.2) := by
  show (match fillA as xs ρ with | none => none | some z => some (o :: z.1, z.2)) = _
  cases fillA as xs ρ <;> rfl
@[simp] theorem fillA_s {n : Nat} {as : List (Option Nat)} {xs : List O} : fillA (some n :: as) (o :: xs) ρ = (qVar n ρ).bind fun y => (fillA as xs (ρ.set n .dead)).map fun z => (y :: z.1, z.2) := by
  show (match qVar n ρ with | none => none | some y => match fillA as xs (ρ.set n .dead) with | none => none | some z => some (y :: z.1, z.2)) = _
  cases qVar n ρ with
  | none => rfl
  | some y => simp only [Option.bind_some]; cases fillA as xs (ρ.set n .dead) <;> rfl
@[simp] theorem backA_nil {xs : List O} : backA [] xs ρ = ρ := by cases xs <;> rfl
@[simp] theorem backA_n {as : List (Option Nat)} {xs : List O} : backA (none :: as) (o :: xs) ρ = backA as xs ρ := rfl
@[simp] theorem backA_s {n : Nat} {as : List (Option Nat)} {xs : List O} : backA (some n :: as) (o :: xs) ρ = backA as xs (ρ.set n o) := rfl
@[simp] theorem fName_eq {n : Nat} {d : PD} : fName n d ρ = some (ρ.set n (.fz d)) := rfl
@[simp] theorem frzO_eq {n : Nat} : frzO n ρ = match qVar n ρ with
    | some o => match toPD o with
      | some d => ρ.set n (.fz d)
      | none => ρ
    | none => ρ := rfl
/-! operators -/
@[simp] theorem oAdd_i : oAdd (.fz (.int i)) (.fz (.int j)) = some (.fz (.int (i + j))) := rfl
@[simp] theorem oSub_i : oSub (.fz (.int i)) (.fz (.int j)) = some (.fz (.int (i - j))) := rfl
@[simp] theorem oLt_i : oLt (.fz (.int i)) (.fz (.int j)) = some (.fz (.bool (decide (i < j)))) := rfl
@[simp] theorem oLe_i : oLe (.fz (.int i)) (.fz (.int j)) = some (.fz (.bool (decide (i ≤ j)))) := rfl
@[simp] theorem oGt_i : oGt (.fz (.int i)) (.fz (.int j)) = some (.fz (.bool (decide (j < i)))) := rfl
@[simp] theorem oGe_i : oGe (.fz (.int i)) (.fz (.int j)) = some (.fz (.bool (decide (j ≤ i)))) := rfl
@[simp] theorem oNeg_i : oNeg (.fz (.int i)) = some (.fz (.int (-i))) := rfl
theorem oMul_r (h1 : -(2 ^ 64) < j) (h2 : j < 2 ^ 64) : oMul (.fz (.int i)) (.fz (.int j)) = some (.fz (.int (i * j))) := by
  have : cMul i j = true := by
    have hs : small64 j = true := @decide_eq_true _ (Classical.propDecidable _) ⟨h1, h2⟩
    unfold cMul
    rw [hs, Bool.or_true, Bool.true_or]
  simp [oMul, this]
theorem oMul_l (h1 : -(2 ^ 64) < i) (h2 : i < 2 ^ 64) : oMul (.fz (.int i)) (.fz (.int j)) = some (.fz (.int (i * j))) := by
  have : cMul i j = true := by
    have hs : small64 i = true := @decide_eq_true _ (Classical.propDecidable _) ⟨h1, h2⟩
    unfold cMul
    rw [hs, Bool.true_or, Bool.true_or]
  simp [oMul, this]
theorem oDiv_i (h1 : 0 < j) (h2 : j < 2 ^ 200) : oDiv (.fz (.int i)) (.fz (.int j)) = some (.fz (.int (i / j))) := by
  have : cDiv i j = true := by
    unfold cDiv
    have h3 : j.natAbs < 2 ^ 8000 := Nat.lt_of_lt_of_le (by omega : j.natAbs < 2 ^ 200) (Nat.pow_le_pow_right (by decide) (by decide))
    simp [h1, h3]
  simp [oDiv, oI, this]
theorem oMod_i (h1 : 0 < j) : oMod (.fz (.int i)) (.fz (.int j)) = some (.fz (.int (i % j))) := by simp [oMod, oI, h1]
theorem oPow_i (h1 : -(2 ^ 64) < i) (h2 : i < 2 ^ 64) (h3 : 0 ≤ j) (h4 : j ≤ 1000000) : oPow (.fz (.int i)) (.fz (.int j)) = some (.fz (.int (i ^ j.toNat))) := by
  have : cPow i j = true := by
    unfold cPow
    have h5 : i.natAbs < 2 ^ 64 := by omega
    simp [h3, h4, h5]
  simp [oPow, oI, this]
theorem beq_dec (i j : Int) : (i == j) = decide (i = j) := by rw [Bool.eq_iff_iff, beq_iff_eq, decide_eq_true_eq]
@[simp] theorem oEq_i : oEq (.fz (.int i)) (.fz (.int j)) = some (.fz (.bool (decide (i = j)))) := by
  simp [oEq, oEqD, strs2, SeqAt.shaped, PyData.canLay0, PyData.depth, PyData.eqv, beq_dec]
@[simp] theorem oNe_i : oNe (.fz (.int i)) (.fz (.int j)) = some (.fz (.bool (!decide (i = j)))) := by
  simp [oNe, oNeD, strs2, SeqAt.shaped, PyData.canLay0, PyData.depth, PyData.eqv, beq_dec]
@[simp] theorem oAbs_i : oAbs [.fz (.int i)] = some (.fz (.int (if i < 0 then -i else i))) := rfl
@[simp] theorem oMax2_i : oMax2 [.fz (.int i), .fz (.int j)] = some (.fz (.int (if j > i then j else i))) := rfl
@[simp] theorem oMin2_i : oMin2 [.fz (.int i), .fz (.int j)] = some (.fz (.int (if j < i then j else i))) := rfl
@[simp] theorem oInt_b {b : Bool} : oInt [.fz (.bool b)] = some (.fz (.int (if b then 1 else 0))) := rfl
@[simp] theorem oInt_i : oInt [.fz (.int i)] = some (.fz (.int i)) := rfl
@[simp] theorem oLen_l {ds : List PD} : oLen [.fz (.list ds)] = some (.fz (.int ds.length)) := rfl
@[simp] theorem oLen_lst {ds : List PD} : oLen [.lst ds] = some (.fz (.int ds.length)) := rfl
@[simp] theorem oLen_t {ds : List PD} : oLen [.fz (.tuple ds)] = some (.fz (.int ds.length)) := rfl
@[simp] theorem oList_l {ds : List PD} : oList [.fz (.list ds)] = some (.lst ds) := rfl
@[simp] theorem oList_lst {ds : List PD} : oList [.lst ds] = some (.lst ds) := rfl
@[simp] theorem oList_t {ds : List PD} : oList [.fz (.tuple ds)] = some (.lst ds) := rfl
@[simp] theorem oTuple_l {ds : List PD} : oTuple [.fz (.list ds)] = some (.fz (.tuple ds)) := rfl
@[simp] theorem oTuple_lst {ds : List PD} : oTuple [.lst ds] = some (.fz (.tuple ds)) := rfl
@[simp] theorem oTuple_t {ds : List PD} : oTuple [.fz (.tuple ds)] = some (.fz (.tuple ds)) := rfl
@[simp] theorem oIx_l {ds : List PD} : oIx (.fz (.list ds)) (.fz (.int i)) = (atI ds i).map .fz := rfl
@[simp] theorem oIx_lst {ds : List PD} : oIx (.lst ds) (.fz (.int i)) = (atI ds i).map .fz := rfl
@[simp] theorem oIx_t {ds : List PD} : oIx (.fz (.tuple ds)) (.fz (.int i)) = (atI ds i).map .fz := rfl
theorem atI_nn {α : Type} {xs : List α} {i : Int} (h : 0 ≤ i) : atI xs i = xs[i.toNat]? := by
  unfold atI ixN
  rw [if_pos h]
  by_cases h2 : i < xs.length
  · rw [if_pos h2]; rfl
  · rw [if_neg h2, List.getElem?_eq_none (by omega)]; rfl
@[simp] theorem atI_0 {α : Type} {xs : List α} : atI xs 0 = xs[0]? := atI_nn (Int.le_refl 0)
@[simp] theorem atI_1 {α : Type} {xs : List α} : atI xs 1 = xs[1]? := atI_nn (by decide)
@[simp] theorem atI_2 {α : Type} {xs : List α} : atI xs 2 = xs[2]? := atI_nn (by decide)
@[simp] theorem atI_3 {α : Type} {xs : List α} : atI xs 3 = xs[3]? := atI_nn (by decide)
@[simp] theorem atI_4 {α : Type} {xs : List α} : atI xs 4 = xs[4]? := atI_nn (by decide)
@[simp] theorem atI_5 {α : Type} {xs : List α} : atI xs 5 = xs[5]? := atI_nn (by decide)
@[simp] theorem atI_6 {α : Type} {xs : List α} : atI xs 6 = xs[6]? := atI_nn (by decide)
@[simp] theorem atI_7 {α : Type} {xs : List α} : atI xs 7 = xs[7]? := atI_nn (by decide)
@[simp] theorem atI_8 {α : Type} {xs : List α} : atI xs 8 = xs[8]? := atI_nn (by decide)
@[simp] theorem atI_9 {α : Type} {xs : List α} : atI xs 9 = xs[9]? := atI_nn (by decide)
@[simp] theorem atI_10 {α : Type} {xs : List α} : atI xs 10 = xs[10]? := atI_nn (by decide)
@[simp] theorem atI_11 {α : Type} {xs : List α} : atI xs 11 = xs[11]? := atI_nn (by decide)
@[simp] theorem atI_12 {α : Type} {xs : List α} : atI xs 12 = xs[12]? := atI_nn (by decide)
theorem atI_last {α : Type} {xs : List α} (h : xs ≠ []) : atI xs (-1) = xs[xs.length - 1]? := by
  unfold atI ixN
  have : 1 ≤ xs.length := List.length_pos_iff.mpr h
  rw [if_neg (by decide), if_pos (by omega)]
  have e : (-1 + (xs.length : Int)).toNat = xs.length - 1 := by omega
  show xs[(-1 + (xs.length : Int)).toNat]? = _
  rw [e]
@[simp] theorem atI_snoc {α : Type} {xs : List α} {x : α} : atI (xs ++ [x]) (-1) = some x := by
  rw [atI_last (by simp)]
  simp
@[simp] theorem fAppend_eq {ds : List PD} {x : PD} (h : ds.length < sizeLine) : fAppend ds [x] = some (.none, ds ++ [x]) := by simp [fAppend, h]
@[simp] theorem fSetI_i {ds : List PD} {d : PD} : fSetI ds (.int i) d = (ixN ds.length i).map fun n => ds.set n d := rfl
end
/-! words unfold -/
section
variable {ρ : List O} {a b : QE} {c d : List O → Option Bool} {r : List O → Option (List O)}
@[simp] theorem qOp_eq {f : O → O → Option O} : qOp f a b ρ = match a ρ with
    | none => none
    | some x => match b ρ with
      | none => none
      | some y => f x y := rfl
@[simp] theorem qUn_eq {f : O → Option O} : qUn f a ρ = match a ρ with
    | none => none
    | some x => f x := rfl
@[simp] theorem qNil_eq : qNil ρ = some [] := rfl
@[simp] theorem qCons_eq : qCons a r ρ = match a ρ with
    | none => none
    | some x => match r ρ with
      | none => none
      | some xs => some (x :: xs) := rfl
@[simp] theorem qCb_eq {f : List O → Option O} : qCb f r ρ = match r ρ with
    | none => none
    | some xs => f xs := rfl
@[simp] theorem qB_eq : qB a ρ = match a ρ with
    | some (.fz (.bool b)) => some b
    | _ => none := rfl
@[simp] theorem qAnd_eq : qAnd c d ρ = match c ρ with
    | some true => d ρ
    | r => r := rfl
@[simp] theorem qOr_eq : qOr c d ρ = match c ρ with
    | some false => d ρ
    | r => r := rfl
@[simp] theorem qNot_eq : qNot c ρ = match c ρ with
    | some b => some (!b)
    | none => none := rfl
@[simp] theorem qIf_eq : qIf c a b ρ = match c ρ with
    | some true => a ρ
    | some false => b ρ
    | none => none := rfl
@[simp] theorem qFz_eq : qFz a ρ = match a ρ with
    | some o => (toPD o).map .fz
    | none => none := rfl
@[simp] theorem qLst_eq : qLst r ρ = match r ρ with
    | none => none
    | some os => match fzs os with
      | some ds => if ds.length ≤ sizeLine then some (.lst ds) else none
      | none => none := rfl
@[simp] theorem qTup_eq : qTup r ρ = match r ρ with
    | none => none
    | some os => match fzs os with
      | some ds => if ds.length ≤ sizeLine then some (.fz (.tuple ds)) else none
      | none => none := rfl
@[simp] theorem qIfA_eq : qIfA a ρ = match a ρ with
    | none => none
    | some x => fzA x := rfl
@[simp] theorem fzA_l {ds : List PD} : fzA (.fz (.list ds)) = some ds := rfl
@[simp] theorem fzA_t {ds : List PD} : fzA (.fz (.tuple ds)) = some ds := rfl
@[simp] theorem qRng1_eq : qRng1 r ρ = match r ρ with
    | some [.fz (.int j)] => if big62 j then some (rngD 0 j.toNat) else none
    | _ => none := rfl
@[simp] theorem qLrg1_eq : qLrg1 a ρ = match a ρ with
    | some (.fz (.int n)) => if big62 n && decide (n.toNat ≤ 2 ^ 24) then some (.lst (rngD 0 n.toNat)) else none
    | _ => none := rfl
@[simp] theorem qIsi_eq {n : String} : qIsi n a ρ = match a ρ with
    | none => none
    | some x => match toPD x with
      | none => none
      | some d => (isTy n d).map fun b => .fz (.bool b) := rfl
theorem isTy_by {n m : String} {d : PD} {r : Option Bool} (h : tyS d = m) (e : kitB m n = r) : isTy n d = r := by rw [isTy, h, e]
@[simp] theorem isTy_none_int : isTy "int" .none = some false := isTy_by (m := "NoneType") (d := .none) rfl (by decide +kernel)
@[simp] theorem isTy_none_bool : isTy "bool" .none = some false := isTy_by (m := "NoneType") (d := .none) rfl (by decide +kernel)
@[simp] theorem isTy_none_str : isTy "str" .none = some false := isTy_by (m := "NoneType") (d := .none) rfl (by decide +kernel)
@[simp] theorem isTy_none_list : isTy "list" .none = some false := isTy_by (m := "NoneType") (d := .none) rfl (by decide +kernel)
@[simp] theorem isTy_none_tuple : isTy "tuple" .none = some false := isTy_by (m := "NoneType") (d := .none) rfl (by decide +kernel)
@[simp] theorem isTy_none_dict : isTy "dict" .none = some false := isTy_by (m := "NoneType") (d := .none) rfl (by decide +kernel)
@[simp] theorem isTy_bool_int {b : Bool} : isTy "int" (.bool b) = some true := isTy_by (m := "bool") (d := (.bool b)) rfl (by decide +kernel)
@[simp] theorem isTy_bool_bool {b : Bool} : isTy "bool" (.bool b) = some true := isTy_by (m := "bool") (d := (.bool b)) rfl (by decide +kernel)
@[simp] theorem isTy_bool_str {b : Bool} : isTy "str" (.bool b) = some false := isTy_by (m := "bool") (d := (.bool b)) rfl (by decide +kernel)
@[simp] theorem isTy_bool_list {b : Bool} : isTy "list" (.bool b) = some false := isTy_by (m := "bool") (d := (.bool b)) rfl (by decide +kernel)
@[simp] theorem isTy_bool_tuple {b : Bool} : isTy "tuple" (.bool b) = some false := isTy_by (m := "bool") (d := (.bool b)) rfl (by decide +kernel)
@[simp] theorem isTy_bool_dict {b : Bool} : isTy "dict" (.bool b) = some false := isTy_by (m := "bool") (d := (.bool b)) rfl (by decide +kernel)
@[simp] theorem isTy_int_int {i : Int} : isTy "int" (.int i) = some true := isTy_by (m := "int") (d := (.int i)) rfl (by decide +kernel)
@[simp] theorem isTy_int_bool {i : Int} : isTy "bool" (.int i) = some false := isTy_by (m := "int") (d := (.int i)) rfl (by decide +kernel)
@[simp] theorem isTy_int_str {i : Int} : isTy "str" (.int i) = some false := isTy_by (m := "int") (d := (.int i)) rfl (by decide +kernel)
@[simp] theorem isTy_int_list {i : Int} : isTy "list" (.int i) = some false := isTy_by (m := "int") (d := (.int i)) rfl (by decide +kernel)
@[simp] theorem isTy_int_tuple {i : Int} : isTy "tuple" (.int i) = some false := isTy_by (m := "int") (d := (.int i)) rfl (by decide +kernel)
@[simp] theorem isTy_int_dict {i : Int} : isTy "dict" (.int i) = some false := isTy_by (m := "int") (d := (.int i)) rfl (by decide +kernel)
@[simp] theorem isTy_str_int {x : Str} : isTy "int" (.str x) = some false := isTy_by (m := "str") (d := (.str x)) rfl (by decide +kernel)
@[simp] theorem isTy_str_bool {x : Str} : isTy "bool" (.str x) = some false := isTy_by (m := "str") (d := (.str x)) rfl (by decide +kernel)
@[simp] theorem isTy_str_str {x : Str} : isTy "str" (.str x) = some true := isTy_by (m := "str") (d := (.str x)) rfl (by decide +kernel)
@[simp] theorem isTy_str_list {x : Str} : isTy "list" (.str x) = some false := isTy_by (m := "str") (d := (.str x)) rfl (by decide +kernel)
@[simp] theorem isTy_str_tuple {x : Str} : isTy "tuple" (.str x) = some false := isTy_by (m := "str") (d := (.str x)) rfl (by decide +kernel)
@[simp] theorem isTy_str_dict {x : Str} : isTy "dict" (.str x) = some false := isTy_by (m := "str") (d := (.str x)) rfl (by decide +kernel)
@[simp] theorem isTy_list_int {ds : List PD} : isTy "int" (.list ds) = some false := isTy_by (m := "list") (d := (.list ds)) rfl (by decide +kernel)
@[simp] theorem isTy_list_bool {ds : List PD} : isTy "bool" (.list ds) = some false := isTy_by (m := "list") (d := (.list ds)) rfl (by decide +kernel)
@[simp] theorem isTy_list_str {ds : List PD} : isTy "str" (.list ds) = some false := isTy_by (m := "list") (d := (.list ds)) rfl (by decide +kernel)
@[simp] theorem isTy_list_list {ds : List PD} : isTy "list" (.list ds) = some true := isTy_by (m := "list") (d := (.list ds)) rfl (by decide +kernel)
@[simp] theorem isTy_list_tuple {ds : List PD} : isTy "tuple" (.list ds) = some false := isTy_by (m := "list") (d := (.list ds)) rfl (by decide +kernel)
@[simp] theorem isTy_list_dict {ds : List PD} : isTy "dict" (.list ds) = some false := isTy_by (m := "list") (d := (.list ds)) rfl (by decide +kernel)
@[simp] theorem isTy_tuple_int {ds : List PD} : isTy "int" (.tuple ds) = some false := isTy_by (m := "tuple") (d := (.tuple ds)) rfl (by decide +kernel)
@[simp] theorem isTy_tuple_bool {ds : List PD} : isTy "bool" (.tuple ds) = some false := isTy_by (m := "tuple") (d := (.tuple ds)) rfl (by decide +kernel)
@[simp] theorem isTy_tuple_str {ds : List PD} : isTy "str" (.tuple ds) = some false := isTy_by (m := "tuple") (d := (.tuple ds)) rfl (by decide +kernel)
@[simp] theorem isTy_tuple_list {ds : List PD} : isTy "list" (.tuple ds) = some false := isTy_by (m := "tuple") (d := (.tuple ds)) rfl (by decide +kernel)
@[simp] theorem isTy_tuple_tuple {ds : List PD} : isTy "tuple" (.tuple ds) = some true := isTy_by (m := "tuple") (d := (.tuple ds)) rfl (by decide +kernel)
@[simp] theorem isTy_tuple_dict {ds : List PD} : isTy "dict" (.tuple ds) = some false := isTy_by (m := "tuple") (d := (.tuple ds)) rfl (by decide +kernel)
@[simp] theorem isTy_dict_int {ds : List (PD × PD)} : isTy "int" (.dict ds) = some false := isTy_by (m := "dict") (d := (.dict ds)) rfl (by decide +kernel)
@[simp] theorem isTy_dict_bool {ds : List (PD × PD)} : isTy "bool" (.dict ds) = some false := isTy_by (m := "dict") (d := (.dict ds)) rfl (by decide +kernel)
@[simp] theorem isTy_dict_str {ds : List (PD × PD)} : isTy "str" (.dict ds) = some false := isTy_by (m := "dict") (d := (.dict ds)) rfl (by decide +kernel)
@[simp] theorem isTy_dict_list {ds : List (PD × PD)} : isTy "list" (.dict ds) = some false := isTy_by (m := "dict") (d := (.dict ds)) rfl (by decide +kernel)
@[simp] theorem isTy_dict_tuple {ds : List (PD × PD)} : isTy "tuple" (.dict ds) = some false := isTy_by (m := "dict") (d := (.dict ds)) rfl (by decide +kernel)
@[simp] theorem isTy_dict_dict {ds : List (PD × PD)} : isTy "dict" (.dict ds) = some true := isTy_by (m := "dict") (d := (.dict ds)) rfl (by decide +kernel)
end
/-! data that can be shown -/
theorem ofs_len (s : String) : (Str.ofString s).length = s.length := PySem.ofString_length s
structure Fine (h n : Nat) (d : PD) : Prop where
  lay : d.canLay0 = true
  dep : d.depth ≤ h
  sh : d.showable = true
  len : d.shown.length ≤ n
structure FineA (h n : Nat) (ds : List PD) : Prop where
  lay : PyData.canLayAll0 ds = true
  dep : PyData.depthAll ds ≤ h
  sh : PyData.showableAll ds = true
  len : piled (PyData.shownAll ds) ≤ n
theorem Fine.mono {h n h' n' : Nat} {d : PD} (f : Fine h n d) (a : h ≤ h') (b : n ≤ n') : Fine h' n' d := ⟨f.lay, Nat.le_trans f.dep a, f.sh, Nat.le_trans f.len b⟩
theorem Fine.int {i : Int} (h : i.natAbs < 2 ^ 64) : Fine 0 21 (.int i) := by
  refine ⟨by simp [PyData.canLay0], by simp [PyData.depth], ?_, ?_⟩
  · have : i.natAbs.log2 < 1920 := PySem.Spec.log2_small (Nat.lt_of_lt_of_le h (Nat.pow_le_pow_right (by decide) (by decide)))
    simp [PyData.showable, this]
  · rw [PyData.shown_int]
    exact Nat.le_trans (Nat.le_of_eq (ofs_len _)) (int_text_length_le10 (k := 20) (by decide) (Nat.lt_of_lt_of_le h (by decide)))
theorem FineA.nil {h : Nat} : FineA h 0 [] := ⟨by simp [PyData.canLayAll0], by simp [PyData.depthAll], by simp [PyData.showableAll], by simp [PyData.shownAll, piled]⟩
theorem FineA.cons {h n m : Nat} {d : PD} {ds : List PD} (a : Fine h n d) (b : FineA h m ds) : FineA h (n + 2 + m) (d :: ds) := by
  refine ⟨by simp [PyData.canLayAll0, a.lay, b.lay], ?_, by simp [PyData.showableAll, a.sh, b.sh], ?_⟩
  · have h1 := a.dep
    have h2 := b.dep
    simp [PyData.depthAll]
    omega
  · have h1 := a.len
    have h2 := b.len
    rw [PyData.shownAll_cons, piled_cons]
    omega
theorem FineA.all {h n : Nat} : ∀ {ds : List PD}, (∀ d ∈ ds, Fine h n d) → FineA h (ds.length * (n + 2)) ds
  | [], _ => by rw [List.length_nil, Nat.zero_mul]; exact .nil
  | d :: ds, f => by
    have := FineA.cons (f d List.mem_cons_self) (FineA.all fun x m => f x (List.mem_cons_of_mem _ m))
    rw [List.length_cons, Nat.succ_mul, Nat.add_comm (ds.length * (n + 2))]
    exact this
theorem join_le (ts : List Str) : (Str.join ", " ts).length ≤ piled ts := by
  by_cases h : ts = []
  · subst h
    decide
  · have := join_length_add ts h
    omega
theorem FineA.list {h n : Nat} {ds : List PD} (a : FineA h n ds) : Fine (h + 1) (n + 2) (.list ds) := by
  refine ⟨by simp [PyData.canLay0, a.lay], by have := a.dep; simp [PyData.depth]; omega, by simp [PyData.showable, a.sh], ?_⟩
  have h1 := a.len
  have h2 := join_le (PyData.shownAll ds)
  rw [PyData.shown_list, strLen_append, strLen_append]
  have e1 : ("[" : Str).length = 1 := by decide
  have e2 : ("]" : Str).length = 1 := by decide
  omega
theorem FineA.tuple {h n : Nat} {ds : List PD} (a : FineA h n ds) : Fine (h + 1) (n + 3) (.tuple ds) := by
  refine ⟨by simp [PyData.canLay0, a.lay], by have := a.dep; simp [PyData.depth]; omega, by simp [PyData.showable, a.sh], ?_⟩
  have h1 := a.len
  have h2 := join_le (PyData.shownAll ds)
  rw [PyData.shown_tuple, strLen_append, strLen_append]
  have e1 : ("(" : Str).length = 1 := by decide
  have e2 : ((if ds.length == 1 then ",)" else ")" : String) : Str).length ≤ 2 := by
    split <;> decide
  omega
theorem Fine.shaped {h n : Nat} {d : PD} (f : Fine h n d) (a : h ≤ 64) : SeqAt.shaped d = true := by
  unfold SeqAt.shaped
  rw [f.lay, decide_eq_true (Nat.le_trans f.dep a)]
  rfl
theorem oStr_seq {h n : Nat} {d : PD} (f : Fine h n d) (a : h ≤ 64) (b : n ≤ sizeLine) (s : isSeqD d = true) : oStr [.fz d] = some (.fz (.str d.shown)) := by
  have e1 := f.shaped a
  have e2 := PyData.hasDict_of_canLay d f.lay
  have e3 : d.shown.length ≤ sizeLine := Nat.le_trans f.len b
  cases d with
  | list ds => simp [oStr, s, e1, e2, e3, f.sh]
  | tuple ds => simp [oStr, s, e1, e2, e3, f.sh]
  | _ => cases s
end FM
namespace FM
open PySem PySem.Spec L2 PyProof.Rows
/-! ### comprehensions whose items may have effects -/
theorem Envs.unset {k : Kc} {F H : Hp} : ∀ {σ : L2.St} {ρ : List O} {S : List Addr} (j : Nat), Envs k F H (σ.set j none) ρ S → Envs k F H σ ρ S
  | [], _, _, _, h => by simpa using h
  | x :: σ, _, _, 0, h => by
    cases h with
    | dead r => exact .dead r
  | x :: σ, _, _, j + 1, h => by
    have h' : Envs k F H (x :: σ.set j none) _ _ := h
    cases h' with
    | dead r => exact .dead (Envs.unset j r)
    | cons w r => exact .cons w (Envs.unset j r)
theorem Envs.unwipe {k : Kc} {F H : Hp} {σ : L2.St} : ∀ {vs : List Nat} {ρ : List O} {S : List Addr}, Envs k F H (L2.wipe σ vs) ρ S → Envs k F H σ ρ S
  | [], _, _, h => h
  | v :: vs, _, _, h => Envs.unwipe (vs := vs) (Envs.unset v h)
theorem Envs.wipeS {k : Kc} {F H : Hp} {σ : L2.St} {ρ : List O} {S : List Addr} (h : Envs k F H σ ρ S) : ∀ vs : List Nat, ∃ S', S'.Sublist S ∧ Envs k F H (L2.wipe σ vs) (wipeO ρ vs) S'
  | [] => ⟨S, .refl _, h⟩
  | v :: vs => by
    obtain ⟨S1, m1, h1⟩ := Envs.wipeS h vs
    obtain ⟨S2, m2, h2⟩ := Envs.setD (v := none) v h1
    exact ⟨S2, m2.trans m1, h2⟩
def lcGoM (f : QG) (c : M Bool) (e : M O) (vs : List Nat) : List PD → List PD → List O → R (List PD)
  | [], acc, ρ => .ok acc ρ
  | x :: xs, acc, ρ => match f x ρ with
    | none => .bad
    | some ρ1 => match c ρ1 with
      | .ok false ρ2 => lcGoM f c e vs xs acc (wipeO ρ2 vs)
      | .ok true ρ2 => match e ρ2 with
        | .ok (.fz d) ρ3 => if acc.length < sizeLine then lcGoM f c e vs xs (acc ++ [d]) (wipeO ρ3 vs) else .bad
        | _ => .bad
      | _ => .bad
def mLc (mi : M (List PD)) (f : QG) (c : M Bool) (e : M O) (vs : List Nat) : M O := fun ρ => match mi ρ with
  | .ok ds ρ1 => match lcGoM f c e vs ds [] (wipeO ρ1 vs) with
    | .ok acc ρ2 => .ok (.lst acc) ρ2
    | _ => .bad
  | .exc x ρ1 => .exc x ρ1
  | .bad => .bad
def bYes : M Bool := fun ρ => .ok true ρ
section
variable {k : Kc} {E : XK}
theorem ttm_yes : TTm k E tYes bYes := fun P e σ ρ vs os H Q s g => g H s
/-- an own list on top grows -/
theorem St.grow {P : List (Nat × V)} {e : Ent} {σ : L2.St} {ρ : List O} {vs : List V} {os : List O} {H : Hp} {y : V} {d : PD} {D : Addr} {acc : List PD} (s : St k P e σ ρ (y :: .ref D :: vs) (.fz d :: .lst acc :: os) H) :
    ∃ ws, H D = some (.lst ws) ∧ ws.length = acc.length ∧ St k P e σ ρ (.ref D :: vs) (.lst (acc ++ [d]) :: os) (upd H D (.lst (ws ++ [y]))) := by
  obtain ⟨F, S1, S2, s⟩ := s
  obtain ⟨rd, s⟩ := s.top
  obtain ⟨env, tmp, fr, pin⟩ := s
  cases tmp with
  | @cons _ _ _ _ T U w r =>
    cases w with
    | @lst a ws _ h rr =>
      have fr' : Fr e F H (D :: (S1 ++ U)) := Sbp.fr fr (.of_count fun b => by
        simp only [List.count_append, List.count_cons, List.count_nil]
        omega)
      have hD : H D = some (.lst ws) := by
        rcases h with h | ⟨ob, h⟩
        · exact h
        · exact (fr'.nofz D List.mem_cons_self ob _ h).elim
      have nd := List.nodup_cons.mp fr'.nd
      have at_ : ∀ Z : List Addr, (∀ b ∈ Z, b ∈ S1 ++ U) → At Z H (upd H D (.lst (ws ++ [y]))) := fun Z m b mb u z => by
        rw [upd_ne (fun q => nd.1 (by rw [← q]; exact m b mb))]
        exact z
      have fw := fr'.write (a := D) (o := .lst (ws ++ [y])) List.mem_cons_self (fun _ _ z => by cases z)
      refine ⟨ws, hD, rr.length, F, S1, [D] ++ U, env.mono (Same.refl F) (at_ S1 fun b m => List.mem_append_left _ m), .cons (.lst (.inl upd_same) (rr.append (.cons rd .nil))) (r.mono (Same.refl F) (at_ U fun b m => List.mem_append_right _ m)), Sbp.fr fw (.of_count fun b => ?_), pin⟩
      simp only [List.count_append, List.count_cons, List.count_nil]
      omega
theorem tem_lc {wi : TI} {g : TG} {tt : TT} {te : TE} {vs : List Nat} {mi : M (List PD)} {f : QG} {c : M Bool} {me : M O} {J : List Nat} (hi : TIm k E wi mi) (hg : TGq k g f J) (hJ : J.all fun j => vs.contains j) (ht : TTm k E0 tt c) (he : TEm k E0 te me) :
    TEm k E (tLc wi g tt te vs) (mLc mi f c me vs) := by
  have hJ' : ∀ j ∈ J, j ∈ vs := fun j m => by simpa using List.all_eq_true.mp hJ j m
  intro P e σ ρ ws os H Q s gg
  refine hi P e σ ρ ws os H _ s ?_
  unfold mLc at gg
  cases e1 : mi ρ with
  | exc x ρ1 => rw [e1] at gg; exact gg
  | bad => rw [e1] at gg; exact gg
  | ok ds ρ1 =>
    rw [e1] at gg
    simp only at gg
    intro It F H1 S1 S2 s1 W D hD
    let e' : Ent := ⟨F, H1, S1 ++ S2⟩
    have f0 : Fr e F H1 (S1 ++ S2) := s1.fr
    cases e2 : lcGoM f c me vs ds [] (wipeO ρ1 vs) with
    | exc x ρ2 => rw [e2] at gg; exact gg.elim
    | bad => rw [e2] at gg; exact gg.elim
    | ok ys ρ2 =>
      rw [e2] at gg
      simp only at gg
      have rewipe : ∀ {σ2 : L2.St} {ρ2 : List O} {zs : List V} {xs : List O} {H2 : Hp}, St k [] e' σ2 ρ2 zs xs H2 → L2.wipe σ2 vs = L2.wipe σ vs → St k [] e' (L2.wipe σ vs) (wipeO ρ2 vs) zs xs H2 := fun {σ2 ρ2 zs xs H2} s ew => by
        obtain ⟨F2, T1, T2, env, tmp, fr, _⟩ := s
        obtain ⟨T', m, q⟩ := env.wipeS vs
        rw [ew] at q
        exact ⟨F2, T', T2, q, tmp, fr.sub (List.Sublist.append m (.refl _)), fun p m => by cases m⟩
      have sD : St k [] e' (L2.wipe σ vs) (wipeO ρ1 vs) (.ref D :: ws) (.lst [] :: os) (upd H1 D (.lst [])) := by
        refine rewipe (σ2 := σ) ?_ rfl
        have s1' : StW k [] e' σ ρ1 ws os F H1 S1 S2 := ⟨s1.env, s1.tmp, s1.fr.refl, fun p m => by cases m⟩
        exact s1'.pushN hD (fun _ _ z => by cases z) (.lst (.inl upd_same) .nil)
      refine ⟨fun i m H => m = ds.length - i ∧ i ≤ ds.length ∧ ∃ acc ρi, St k [] e' (L2.wipe σ vs) ρi (.ref D :: ws) (.lst acc :: os) H ∧ lcGoM f c me vs (ds.drop i) acc ρi = .ok ys ρ2, ⟨_, rfl, Nat.zero_le _, [], _, sD, by simpa using e2⟩, ?_⟩
      rintro i m H2 ⟨rfl, hi2, acc, ρi, s2, g2⟩
      by_cases hlt : i < ds.length
      · obtain ⟨F2, T1, T2, s2⟩ := s2
        refine .inr ⟨W.goes i F2 H2 hlt s2.fr.f0 s2.fr.fle, fun H' => i + 1 ≤ ds.length ∧ ∃ acc ρi, St k [] e' (L2.wipe σ vs) ρi (.ref D :: ws) (.lst acc :: os) H' ∧ lcGoM f c me vs (ds.drop (i + 1)) acc ρi = .ok ys ρ2, fun H' z => ⟨_, by omega, rfl, z.1, z.2⟩, fun x H3 y => ?_⟩
        obtain ⟨F3, x3, rx⟩ := W.yields i F2 H2 x H3 hlt s2.fr.f0 s2.fr.fle y
        rw [List.drop_eq_getElem_cons hlt] at g2
        unfold lcGoM at g2
        cases e6 : f ds[i] ρi with
        | none => rw [e6] at g2; cases g2
        | some ρ4 =>
          simp only [e6] at g2
          have s3 : StW k [] e' (L2.wipe σ vs) ρi (.ref D :: ws) (.lst acc :: os) F3 H3 T1 T2 := s2.xt x3
          refine hg F3 H3 _ ρi ρ4 T1 x ds[i] _ s3.qs rx e6 fun σ4 S' q' m' ag => ?_
          have ew : L2.wipe σ4 vs = L2.wipe σ vs := by rw [ag.wipe hJ']; exact wipe_wipe vs vs fun _ z => z
          have s4 : St k [] e' σ4 ρ4 (.ref D :: ws) (.lst acc :: os) H3 := ⟨F3, S', T2, q'.env, s3.tmp, s3.fr.sub (List.Sublist.append m' (.refl _)), fun p m => by cases m⟩
          refine ⟨ew, ht [] e' σ4 ρ4 _ _ H3 _ s4 ?_⟩
          cases e7 : c ρ4 with
          | exc x5 ρ5 => simp only [e7] at g2; cases g2
          | bad => simp only [e7] at g2; cases g2
          | ok b ρ5 =>
            simp only [e7] at g2
            intro H5 s5
            cases b with
            | false =>
              rw [if_neg (by decide)]
              exact ⟨hlt, acc, _, rewipe s5 ew, g2⟩
            | true =>
              rw [if_pos rfl]
              simp only at g2
              refine he [] e' σ4 ρ5 _ _ H5 _ s5 ?_
              cases e8 : me ρ5 with
              | exc x6 ρ6 => simp only [e8] at g2; cases g2
              | bad => simp only [e8] at g2; cases g2
              | ok o6 ρ6 =>
                simp only [e8] at g2
                intro v H6 s6
                cases o6 with
                | fz d =>
                  simp only at g2
                  split at g2
                  · rename_i hz
                    obtain ⟨zs, z1, z2, z3⟩ := s6.grow
                    exact ⟨zs, z1, by omega, hlt, acc ++ [d], _, rewipe z3 ew, g2⟩
                  · cases g2
                | _ => cases g2
      · have ei : i = ds.length := by omega
        subst ei
        obtain ⟨F2, T1, T2, s2⟩ := s2
        refine .inl ⟨W.stops F2 H2 s2.fr.f0 s2.fr.fle, ?_⟩
        rw [List.drop_length] at g2
        unfold lcGoM at g2
        cases g2
        exact gg (.ref D) H2 ⟨F2, T1, T2, s2.env.unwipe, s2.tmp, f0.trans s2.fr, s1.pin⟩
end
end FM
namespace FM
open PySem PySem.Spec L2 PyProof.Rows
/-! ### all, any, sum, max, min, sorted of a list -/
def boolsD : List PD → Option (List Bool)
  | [] => some []
  | .bool b :: r => (boolsD r).map (b :: ·)
  | _ => none
def intsD : List PD → Option (List Int)
  | [] => some []
  | .int b :: r => (intsD r).map (b :: ·)
  | _ => none
theorem boolsD_eq : ∀ {ds : List PD} {bs : List Bool}, boolsD ds = some bs → ds = bs.map .bool
  | [], bs, e => by cases e; rfl
  | .bool b :: r, bs, e => by
    obtain ⟨z, e1, e2⟩ := Option.map_eq_some_iff.mp (show (boolsD r).map (b :: ·) = some bs from e)
    subst e2
    rw [boolsD_eq e1]
    rfl
theorem intsD_eq : ∀ {ds : List PD} {bs : List Int}, intsD ds = some bs → ds = bs.map .int
  | [], bs, e => by cases e; rfl
  | .int b :: r, bs, e => by
    obtain ⟨z, e1, e2⟩ := Option.map_eq_some_iff.mp (show (intsD r).map (b :: ·) = some bs from e)
    subst e2
    rw [intsD_eq e1]
    rfl
@[simp] theorem boolsD_map (bs : List Bool) : boolsD (bs.map .bool) = some bs := by
  induction bs with
  | nil => rfl
  | cons b bs ih => rw [List.map_cons]; show (boolsD _).map _ = _; rw [ih]; rfl
@[simp] theorem intsD_map (bs : List Int) : intsD (bs.map .int) = some bs := by
  induction bs with
  | nil => rfl
  | cons b bs ih => rw [List.map_cons]; show (intsD _).map _ = _; rw [ih]; rfl
theorem reps_bools {K : Frag} {F : Hp} : ∀ {bs : List Bool} {vs : List V}, Reps K F vs (bs.map .bool) → vs = bs.map V.bl
  | [], _, .nil => rfl
  | b :: bs, _, .cons w r => by
    rw [reps_bools r]
    cases w with
    | bl => rfl
    | dic _ _ e => cases e
    | dit _ _ e => cases e
theorem reps_ints {K : Frag} {F : Hp} : ∀ {bs : List Int} {vs : List V}, Reps K F vs (bs.map .int) → vs = bs.map V.int
  | [], _, .nil => rfl
  | b :: bs, _, .cons w r => by
    rw [reps_ints r]
    cases w with
    | int => rfl
    | dic _ _ e => cases e
    | dit _ _ e => cases e
def oBools (g : List Bool → Bool) : List O → Option O
  | [x] => match seqL x with
    | some ds => (boolsD ds).map fun bs => .fz (.bool (g bs))
    | none => none
  | _ => none
def oInts (g : List Int → Option PD) : List O → Option O
  | [x] => match seqL x with
    | some ds => match intsD ds with
      | some ns => (g ns).map .fz
      | none => none
    | none => none
  | _ => none
def oAll := oBools fun bs => bs.all id
def oAny := oBools fun bs => bs.any id
def oSum := oInts fun ns => some (.int ns.sum)
def maxI : List Int → Int
  | [] => 0
  | [x] => x
  | x :: y :: r => max x (maxI (y :: r))
def minI : List Int → Int
  | [] => 0
  | [x] => x
  | x :: y :: r => min x (minI (y :: r))
theorem maxI_is : ∀ {ns : List Int}, ns ≠ [] → maxI ns ∈ ns ∧ ∀ y ∈ ns, y ≤ maxI ns
  | [], h => absurd rfl h
  | [x], _ => by simp [maxI]
  | x :: y :: r, _ => by
    obtain ⟨h1, h2⟩ := maxI_is (ns := y :: r) (by simp)
    have e : maxI (x :: y :: r) = max x (maxI (y :: r)) := rfl
    rw [e]
    refine ⟨?_, fun z m => ?_⟩
    · rcases Int.le_total x (maxI (y :: r)) with l | l
      · rw [Int.max_eq_right l]; exact List.mem_cons_of_mem _ h1
      · rw [Int.max_eq_left l]; exact List.mem_cons_self
    · rcases List.mem_cons.mp m with m | m
      · rw [m]; exact Int.le_max_left _ _
      · exact Int.le_trans (h2 z m) (Int.le_max_right _ _)
theorem minI_is : ∀ {ns : List Int}, ns ≠ [] → minI ns ∈ ns ∧ ∀ y ∈ ns, minI ns ≤ y
  | [], h => absurd rfl h
  | [x], _ => by simp [minI]
  | x :: y :: r, _ => by
    obtain ⟨h1, h2⟩ := minI_is (ns := y :: r) (by simp)
    have e : minI (x :: y :: r) = min x (minI (y :: r)) := rfl
    rw [e]
    refine ⟨?_, fun z m => ?_⟩
    · rcases Int.le_total x (minI (y :: r)) with l | l
      · rw [Int.min_eq_left l]; exact List.mem_cons_self
      · rw [Int.min_eq_right l]; exact List.mem_cons_of_mem _ h1
    · rcases List.mem_cons.mp m with m | m
      · rw [m]; exact Int.min_le_left _ _
      · exact Int.le_trans (Int.min_le_right _ _) (h2 z m)
def oMax1 := oInts fun ns => if ns = [] then none else some (.int (maxI ns))
def oMin1 := oInts fun ns => if ns = [] then none else some (.int (minI ns))
section
variable {k : Kc}
theorem bools_ok {F H : Hp} {S : List Addr} {g : List Bool → Bool} {xs : List V} {os : List O} {o : O} (f : FLe F H) (ws : Vws k F H S xs os) (e : oBools g os = some o) : ∃ a bs, xs = [.ref a] ∧ SqL k.K H a (bs.map V.bl) ∧ o = .fz (.bool (g bs)) := by
  unfold oBools at e
  split at e
  · cases ws with
    | cons w ws =>
      cases ws
      split at e
      · rename_i ds es
        obtain ⟨bs, e1, e2⟩ := Option.map_eq_some_iff.mp e
        obtain ⟨a, vs, rfl, g1, g2⟩ := w.seqL f es
        have e3 := boolsD_eq e1
        subst e3
        rw [reps_bools g2] at g1
        exact ⟨a, bs, rfl, g1, e2.symm⟩
      · cases e
  · cases e
theorem ints_ok {F H : Hp} {S : List Addr} {g : List Int → Option PD} {xs : List V} {os : List O} {o : O} (f : FLe F H) (ws : Vws k F H S xs os) (e : oInts g os = some o) : ∃ a bs d, xs = [.ref a] ∧ SqL k.K H a (bs.map V.int) ∧ g bs = some d ∧ o = .fz d := by
  unfold oInts at e
  split at e
  · cases ws with
    | cons w ws =>
      cases ws
      split at e
      · rename_i ds es
        split at e
        · rename_i bs e1
          obtain ⟨d, e2, e4⟩ := Option.map_eq_some_iff.mp e
          obtain ⟨a, vs, rfl, g1, g2⟩ := w.seqL f es
          have e3 := intsD_eq e1
          subst e3
          rw [reps_ints g2] at g1
          exact ⟨a, bs, d, rfl, g1, e2, e4.symm⟩
        · cases e
      · cases e
  · cases e
theorem cb_all : CbV k (rAll k.K) oAll := by
  intro F H S xs os o Q f off th ws e h
  obtain ⟨a, bs, e1, e2, e3⟩ := bools_ok f ws e
  subst e3
  exact ⟨a, bs, e1, e2, h _ F H (Xt.refl f) (.fz (.bl _))⟩
theorem cb_any : CbV k (rAny k.K) oAny := by
  intro F H S xs os o Q f off th ws e h
  obtain ⟨a, bs, e1, e2, e3⟩ := bools_ok f ws e
  subst e3
  exact ⟨a, bs, e1, e2, h _ F H (Xt.refl f) (.fz (.bl _))⟩
theorem cb_sum : CbV k (rSum k.K) oSum := by
  intro F H S xs os o Q f off th ws e h
  obtain ⟨a, bs, d, e1, e2, e3, e4⟩ := ints_ok f ws e
  cases e3
  subst e4
  exact ⟨a, bs, e1, e2, h _ F H (Xt.refl f) (.fz (.int _))⟩
theorem cb_max1 : CbV k (rMax k.K) oMax1 := by
  intro F H S xs os o Q f off th ws e h
  obtain ⟨a, bs, d, e1, e2, e3, e4⟩ := ints_ok f ws e
  split at e3
  · cases e3
  · rename_i hne
    cases e3
    subst e4
    refine ⟨a, bs, e1, e2, List.length_pos_iff.mpr hne, fun m m1 m2 => ?_⟩
    obtain ⟨h1, h2⟩ := maxI_is hne
    rw [Int.le_antisymm (h2 m m1) (m2 _ h1)]
    exact h _ F H (Xt.refl f) (.fz (.int _))
theorem cb_min1 : CbV k (rMin k.K) oMin1 := by
  intro F H S xs os o Q f off th ws e h
  obtain ⟨a, bs, d, e1, e2, e3, e4⟩ := ints_ok f ws e
  split at e3
  · cases e3
  · rename_i hne
    cases e3
    subst e4
    refine ⟨a, bs, e1, e2, List.length_pos_iff.mpr hne, fun m m1 m2 => ?_⟩
    obtain ⟨h1, h2⟩ := minI_is hne
    rw [Int.le_antisymm (m2 _ h1) (h2 m m1)]
    exact h _ F H (Xt.refl f) (.fz (.int _))
end
end FM
namespace FM
open PySem PySem.Spec L2 PyProof.Rows
/-! ### zip of two lists, of two tuples; enumerate of a list -/
def pairD (a b : PD) : PD := .tuple [a, b]
def zipD (ds es : List PD) : List PD := List.zipWith pairD ds es
theorem zip_at {ds es : List PD} {i : Nat} (h : i < (zipD ds es).length) : ∃ (h1 : i < ds.length) (h2 : i < es.length), (zipD ds es)[i] = pairD ds[i] es[i] := by
  have h' : i < min ds.length es.length := by simpa [zipD] using h
  exact ⟨by omega, by omega, by simp [zipD]⟩
section
variable {k : Kc} {P : Hp → Hp → Prop} {a b : Addr} {vs ws : List V} {ds es : List PD}
theorem pair_new {F H : Hp} {T : Addr} {x y : V} {d e : PD} (f : FLe F H) (hT : H T = none) (r1 : Rep k.K F x d) (r2 : Rep k.K F y e) : ∃ F', Xt F H F' (upd H T (.tup [x, y])) ∧ Rep k.K F' (.ref T) (pairD d e) :=
  ⟨_, Xt.new f hT, .tup upd_same (.cons (r1.sub (Xt.new f hT).sub) (.cons (r2.sub (Xt.new f hT).sub) .nil))⟩
theorem walkD_zip (hs : ∀ F H, P F H → FLe F H → SqL k.K H a vs ∧ Reps k.K F vs ds ∧ SqL k.K H b ws ∧ Reps k.K F ws es) (l1 : vs.length = ds.length) (l2 : ws.length = es.length) : WalkD k P (Itz k.K a b) (zipD ds es) := by
  refine ⟨fun i F H hi p f => ?_, fun F H p f => ?_, fun i F H x H' hi p f y => ?_⟩
  · obtain ⟨h1, h2, _⟩ := zip_at hi
    obtain ⟨s1, r1, s2, r2⟩ := hs F H p f
    exact ⟨vs, ws, vs[i], ws[i], s1, s2, List.getElem?_eq_getElem (by omega), List.getElem?_eq_getElem (by omega)⟩
  · obtain ⟨s1, r1, s2, r2⟩ := hs F H p f
    refine ⟨vs, ws, s1, s2, ?_⟩
    have : (zipD ds es).length = min ds.length es.length := by simp [zipD]
    omega
  · obtain ⟨h1, h2, h3⟩ := zip_at hi
    obtain ⟨s1, r1, s2, r2⟩ := hs F H p f
    obtain ⟨T, x1, y1, rfl, hT, rfl, e1, e2⟩ := y
    obtain ⟨v, g1, g2⟩ := r1.get (i := i) (d := ds[i]) (by simp [h1])
    obtain ⟨w, g3, g4⟩ := r2.get (i := i) (d := es[i]) (by simp [h2])
    rw [e1 vs s1] at g1
    rw [e2 ws s2] at g3
    cases g1
    cases g3
    rw [h3]
    exact pair_new f hT g2 g4
theorem walkD_zipT (hs : ∀ F H, P F H → FLe F H → SqT k.K H a vs ∧ Reps k.K F vs ds ∧ SqT k.K H b ws ∧ Reps k.K F ws es) (l1 : vs.length = ds.length) (l2 : ws.length = es.length) : WalkD k P (RZ.ItzT k.K a b) (zipD ds es) := by
  refine ⟨fun i F H hi p f => ?_, fun F H p f => ?_, fun i F H x H' hi p f y => ?_⟩
  · obtain ⟨h1, h2, _⟩ := zip_at hi
    obtain ⟨s1, r1, s2, r2⟩ := hs F H p f
    exact ⟨vs, ws, vs[i], ws[i], s1, s2, List.getElem?_eq_getElem (by omega), List.getElem?_eq_getElem (by omega)⟩
  · obtain ⟨s1, r1, s2, r2⟩ := hs F H p f
    refine ⟨vs, ws, s1, s2, ?_⟩
    have : (zipD ds es).length = min ds.length es.length := by simp [zipD]
    omega
  · obtain ⟨h1, h2, h3⟩ := zip_at hi
    obtain ⟨s1, r1, s2, r2⟩ := hs F H p f
    obtain ⟨T, x1, y1, rfl, hT, rfl, e1, e2⟩ := y
    obtain ⟨v, g1, g2⟩ := r1.get (i := i) (d := ds[i]) (by simp [h1])
    obtain ⟨w, g3, g4⟩ := r2.get (i := i) (d := es[i]) (by simp [h2])
    rw [e1 vs s1] at g1
    rw [e2 ws s2] at g3
    cases g1
    cases g3
    rw [h3]
    exact pair_new f hT g2 g4
def enumGo : Nat → List PD → List PD
  | _, [] => []
  | n, d :: ds => pairD (.int (n : Int)) d :: enumGo (n + 1) ds
theorem enum_at : ∀ {ds : List PD} {n i : Nat} (h : i < (enumGo n ds).length), ∃ (h1 : i < ds.length), (enumGo n ds)[i] = pairD (.int ((n + i : Nat) : Int)) ds[i]
  | [], _, _, h => absurd h (Nat.not_lt_zero _)
  | d :: ds, n, 0, h => ⟨Nat.zero_lt_succ _, rfl⟩
  | d :: ds, n, i + 1, h => by
    obtain ⟨h1, h2⟩ := enum_at (ds := ds) (n := n + 1) (i := i) (by simpa [enumGo] using h)
    refine ⟨Nat.succ_lt_succ h1, ?_⟩
    have e : (enumGo n (d :: ds))[i + 1] = (enumGo (n + 1) ds)[i]'(by simpa [enumGo] using h) := rfl
    rw [e, h2, show n + 1 + i = n + (i + 1) by omega]
    rfl
theorem enum_len : ∀ (ds : List PD) (n : Nat), (enumGo n ds).length = ds.length
  | [], _ => rfl
  | _ :: ds, n => congrArg (· + 1) (enum_len ds (n + 1))
theorem walkD_enum (hs : ∀ F H, P F H → FLe F H → SqL k.K H a vs ∧ Reps k.K F vs ds) (l1 : vs.length = ds.length) : WalkD k P (Ite k.K a) (enumGo 0 ds) := by
  refine ⟨fun i F H hi p f => ?_, fun F H p f => ?_, fun i F H x H' hi p f y => ?_⟩
  · obtain ⟨h1, _⟩ := enum_at hi
    exact ⟨vs, vs[i], (hs F H p f).1, List.getElem?_eq_getElem (by omega)⟩
  · exact ⟨vs, (hs F H p f).1, by rw [enum_len]; omega⟩
  · obtain ⟨h1, h3⟩ := enum_at hi
    obtain ⟨s1, r1⟩ := hs F H p f
    obtain ⟨T, x1, rfl, hT, rfl, e1⟩ := y
    obtain ⟨v, g1, g2⟩ := r1.get (i := i) (d := ds[i]) (by simp [h1])
    rw [e1 vs s1] at g1
    cases g1
    rw [h3, Nat.zero_add]
    exact pair_new f hT (.int _) g2
/-- two frozen lists, two frozen tuples -/
def qZip (r : List O → Option (List O)) : QI := fun ρ => match r ρ with
  | some [.fz (.list ds), .fz (.list es)] => some (zipD ds es)
  | some [.fz (.tuple ds), .fz (.tuple es)] => some (zipD ds es)
  | _ => none
theorem tif_zip {ta : TA} {qs : List O → Option (List O)} (ha : TAv k ta qs) : TIf k (RZ.iZipA k.K ta) (qZip qs) := by
  intro F H σ ρ S xs R q e g
  unfold qZip at e
  split at e
  · rename_i ds es e1
    have e' := Option.some.inj e
    subst e'
    refine ha F H σ ρ S _ _ q e1 fun us F1 H1 x1 w1 => ?_
    cases w1 with
    | cons w ww =>
      cases ww with
      | cons w' ww =>
        cases ww
        obtain ⟨a, vs, rfl, g1, g2⟩ := w.fzL rfl
        obtain ⟨b, ws, rfl, g3, g4⟩ := w'.fzL rfl
        exact ⟨a, b, vs, ws, rfl, .inl ⟨sqL_le x1.fle g1, sqL_le x1.fle g3, g _ F1 H1 x1 (walkD_zip (fun F2 H2 p f => ⟨sqL_le f (sqL_sub p g1), g2.sub p, sqL_le f (sqL_sub p g3), g4.sub p⟩) g2.length g4.length)⟩⟩
  · rename_i ds es e1
    have e' := Option.some.inj e
    subst e'
    refine ha F H σ ρ S _ _ q e1 fun us F1 H1 x1 w1 => ?_
    cases w1 with
    | cons w ww =>
      cases ww with
      | cons w' ww =>
        cases ww
        obtain ⟨a, vs, rfl, g1, g2⟩ := w.fzR (ds := ds) rfl
        obtain ⟨b, ws, rfl, g3, g4⟩ := w'.fzR (ds := es) rfl
        exact ⟨a, b, vs, ws, rfl, .inr ⟨sqT_le x1.fle (g1 F1 (Same.refl _)), sqT_le x1.fle (g3 F1 (Same.refl _)), g _ F1 H1 x1 (walkD_zipT (fun F2 H2 p f => ⟨sqT_le f (g1 F2 p), g2.sub p, sqT_le f (g3 F2 p), g4.sub p⟩) g2.length g4.length)⟩⟩
  · cases e
def qEnum (r : List O → Option (List O)) : QI := fun ρ => match r ρ with
  | some [.fz (.list ds)] => some (enumGo 0 ds)
  | _ => none
theorem tif_enum {ta : TA} {qs : List O → Option (List O)} (ha : TAv k ta qs) : TIf k (iEnum k.K ta) (qEnum qs) := by
  intro F H σ ρ S xs R q e g
  unfold qEnum at e
  split at e
  · rename_i ds e1
    have e' := Option.some.inj e
    subst e'
    refine ha F H σ ρ S _ _ q e1 fun us F1 H1 x1 w1 => ?_
    cases w1 with
    | cons w ww =>
      cases ww
      obtain ⟨a, vs, rfl, g1, g2⟩ := w.fzL rfl
      exact ⟨a, vs, rfl, sqL_le x1.fle g1, g _ F1 H1 x1 (walkD_enum (fun F2 H2 p f => ⟨sqL_le f (sqL_sub p g1), g2.sub p⟩) g2.length)⟩
  · cases e
end
end FM
namespace FM
open PySem PySem.Spec L2 PyProof.Rows
/-! ### sorted of ints -/
def sortI (ns : List Int) : List Int := ns.mergeSort (fun a b => decide (a ≤ b))
theorem sortI_perm (ns : List Int) : (sortI ns).Perm ns := List.mergeSort_perm _ _
theorem sortI_sorted (ns : List Int) : (sortI ns).Pairwise (· ≤ ·) := by
  have h := List.pairwise_mergeSort (le := fun a b : Int => decide (a ≤ b)) (fun a b c h1 h2 => by simp at h1 h2 ⊢; omega) (fun a b => by simp; omega) ns
  exact h.imp fun h => by simpa using h
theorem sorted_unique : ∀ {l r : List Int}, l.Perm r → l.Pairwise (· ≤ ·) → r.Pairwise (· ≤ ·) → l = r
  | [], r, p, _, _ => p.nil_eq
  | a :: l, [], p, _, _ => by cases p.eq_nil
  | a :: l, b :: r, p, h1, h2 => by
    have h1' := List.pairwise_cons.mp h1
    have h2' := List.pairwise_cons.mp h2
    have ea : a = b := by
      have m1 : a ∈ b :: r := p.mem_iff.mp List.mem_cons_self
      have m2 : b ∈ a :: l := p.mem_iff.mpr List.mem_cons_self
      rcases List.mem_cons.mp m1 with e | m1
      · exact e
      · rcases List.mem_cons.mp m2 with e | m2
        · exact e.symm
        · exact Int.le_antisymm (h1'.1 b m2) (h2'.1 a m1)
    subst ea
    rw [sorted_unique (List.perm_cons a |>.mp p) h1'.2 h2'.2]
def oSorted : List O → Option O
  | [x] => match seqL x with
    | some ds => match intsD ds with
      | some ns => if ns.length < 64 then some (.lst ((sortI ns).map .int)) else none
      | none => none
    | none => none
  | _ => none
section
variable {k : Kc}
theorem ints_reps {K : Frag} {F : Hp} : ∀ ns : List Int, Reps K F (ns.map V.int) (ns.map .int)
  | [] => .nil
  | n :: ns => .cons (.int n) (ints_reps ns)
theorem cn_sorted : CbN k (rSorted k.K) oSorted := by
  intro F H S xs os o Q f off th ws e h
  unfold oSorted at e
  split at e
  · cases ws with
    | cons w ws =>
      cases ws
      split at e
      · rename_i ds es
        split at e
        · rename_i ns en
          split at e
          · rename_i hz
            have e' := Option.some.inj e
            subst e'
            obtain ⟨a, vs, rfl, g1, g2⟩ := w.seqL f es
            have e3 := intsD_eq en
            subst e3
            rw [reps_ints g2] at g1
            refine ⟨a, ns, rfl, g1, hz, fun ns' p hp hs hn => ?_⟩
            rw [sorted_unique (hp.trans (sortI_perm ns).symm) hs (sortI_sorted ns)]
            exact own_list f (ints_reps (sortI ns)) h p hn
          · cases e
        · cases e
      · cases e
  · cases e
end
/-! ### defs that call themselves -/
theorem CalG.bad {P : Program} {w : World} {K : Frag} {mg : Str → Option Value} {base : Heap} {x qual : Str} {params : Arguments} {body : List Stmt} {scope : Scope} {dvs : List V} {kws : List (Str × V)} {f : Addr} {fd : FuncData} {ps : List Str} {kc : Kc} {n k : Nat} {g : List O → FR} (hg : g = fun _ => .bad)
    (F : FunD K x qual params body scope dvs kws f fd) (hm : mg x = some (.ref f)) (b : Binds K fd ps []) : CalG P w K mg base k x (spM kc n g) := by
  subst hg
  exact ⟨f, fd, ps, ⟨fun vs H Q E h => let ⟨_, _, _, _, _, _, z⟩ := h; z.elim, fun A outer s H args us vs Q E _ _ _ _ h => let ⟨_, _, _, _, _, _, z⟩ := h; z.elim⟩, hm, F.kp, b⟩
end FM
namespace FM
open PySem PySem.Spec L2 PyProof.Rows
/-! ### an empty dict -/
def qDk0 : QE := fun _ => some (.dic [])
def qDt0 : QE := fun _ => some (.dit [])
theorem Qs.newN {k : Kc} {F H : Hp} {σ : L2.St} {ρ : List O} {S : List Addr} (q : Qs k F H σ ρ S) {p : Addr} {ob : HO} (hp : H p = none) (hn : ∀ o u, ob ≠ .frz o u) : Xt F H F (upd H p ob) ∧ Fresh F H (upd H p ob) [p] := by
  refine ⟨Xt.own q.fle hp, ⟨List.nodup_cons.mpr ⟨List.not_mem_nil, .nil⟩, (fun a m => ?_), (fun a m => ?_), (fun a m o u z => ?_)⟩⟩
  · rw [List.mem_singleton.mp m]; exact hp
  · rw [List.mem_singleton.mp m]; exact fle_none q.fle hp
  · rw [List.mem_singleton.mp m, upd_same] at z
    exact hn o u (Option.some.inj z)
theorem ten_dk0 {k : Kc} : TEn k tDNewK qDk0 := by
  intro F H σ ρ S o Q q e h
  have e' := Option.some.inj e
  subst e'
  intro p hp
  obtain ⟨x, fr⟩ := q.newN (ob := .dK []) hp (fun _ _ z => by cases z)
  exact h _ _ _ _ x (.dic (.inl upd_same) .nil) fr
theorem ten_dt0 {k : Kc} : TEn k tDNewT qDt0 := by
  intro F H σ ρ S o Q q e h
  have e' := Option.some.inj e
  subst e'
  intro p hp
  obtain ⟨x, fr⟩ := q.newN (ob := .dT []) hp (fun _ _ z => by cases z)
  exact h _ _ _ _ x (.dit (.inl upd_same) .nil) fr
/-! ### comparisons in a chain -/
end FM
namespace FM
open PySem PySem.Spec L2 PyProof.Rows
/-! ### more words at written-out slots -/
section
variable {ρ : List O} {a b : QE} {r : List O → Option (List O)}
@[simp] theorem qAndV_eq : qAndV a b ρ = match a ρ with
    | some (.fz (.bool true)) => b ρ
    | some (.fz (.bool false)) => some (.fz (.bool false))
    | _ => none := rfl
@[simp] theorem qOrV_eq : qOrV a b ρ = match a ρ with
    | some (.fz (.bool false)) => b ρ
    | some (.fz (.bool true)) => some (.fz (.bool true))
    | _ => none := rfl
@[simp] theorem qNotV_eq : qNotV a ρ = match a ρ with
    | some (.fz (.bool b)) => some (.fz (.bool (!b)))
    | _ => none := rfl
@[simp] theorem qIsi2_eq {n m : String} : qIsi2 n m a ρ = match a ρ with
    | none => none
    | some x => match toPD x with
      | none => none
      | some d => match isTy n d, isTy m d with
        | some b, some c => some (.fz (.bool (b || c)))
        | _, _ => none := rfl
@[simp] theorem qYes_eq : qYes ρ = some true := rfl
@[simp] theorem wipeO_nil : wipeO ρ [] = ρ := rfl
@[simp] theorem wipeO_cons {v : Nat} {vs : List Nat} : wipeO ρ (v :: vs) = (wipeO ρ vs).set v .dead := rfl
@[simp] theorem qLc_eq {qi : QI} {f : QG} {c : List O → Option Bool} {e : QE} {vs : List Nat} : qLc qi f c e vs ρ = match qi ρ with
    | none => none
    | some xs => if xs.length ≤ sizeLine then (lcGo f c e (wipeO ρ vs) xs).map .lst else none := rfl
@[simp] theorem lcGo_nil {f : QG} {c : List O → Option Bool} {e : QE} : lcGo f c e ρ [] = some [] := rfl
theorem lcGo_cons {f : QG} {c : List O → Option Bool} {e : QE} {x : PD} {xs : List PD} : lcGo f c e ρ (x :: xs) = match f x ρ with
    | none => none
    | some ρ1 => match c ρ1 with
      | none => none
      | some false => lcGo f c e ρ xs
      | some true => match e ρ1 with
        | some (.fz d) => (lcGo f c e ρ xs).map fun r => d :: r
        | _ => none := rfl
@[simp] theorem fTup_eq {n : Nat} {f : List PD → List O → Option (List O)} {ds : List PD} : fTup n f (.tuple ds) ρ = if ds.length = n then f ds ρ else none := rfl
@[simp] theorem fCons_eq {f : QG} {g : List PD → List O → Option (List O)} {d : PD} {ds : List PD} : fCons f g (d :: ds) ρ = match f d ρ with
    | none => none
    | some ρ' => g ds ρ' := rfl
@[simp] theorem fNil_eq : fNil [] ρ = some ρ := rfl
@[simp] theorem oIsN_fz {d : PD} : oIsN (.fz d) (.fz .none) = some (.fz (.bool (match d with | .none => true | _ => false))) := by
  cases d <;> rfl
@[simp] theorem oNotN_fz {d : PD} : oNotN (.fz d) (.fz .none) = some (.fz (.bool (match d with | .none => false | _ => true))) := by
  cases d <;> rfl
@[simp] theorem oIsB_b {x y : Bool} : oIsB (.fz (.bool x)) (.fz (.bool y)) = some (.fz (.bool (decide (x = y)))) := rfl
@[simp] theorem oNotB_b {x y : Bool} : oNotB (.fz (.bool x)) (.fz (.bool y)) = some (.fz (.bool (!decide (x = y)))) := rfl
@[simp] theorem qItA_eq : qItA a ρ = match a ρ with
    | none => none
    | some x => viA x := rfl
@[simp] theorem viA_l {ds : List PD} : viA (.fz (.list ds)) = some ds := rfl
@[simp] theorem viA_t {ds : List PD} : viA (.fz (.tuple ds)) = some ds := rfl
@[simp] theorem viA_lst {ds : List PD} : viA (.lst ds) = some ds := rfl
@[simp] theorem qNo_eq : qNo ρ = some none := rfl
@[simp] theorem qPart_eq : qPart a ρ = match a ρ with
    | some (.fz (.int i)) => some (some i)
    | _ => none := rfl
@[simp] theorem qSl_eq {lo hi : List O → Option (Option Int)} : qSl a lo hi ρ = match a ρ with
    | none => none
    | some x => match lo ρ with
      | none => none
      | some l => match hi ρ with
        | none => none
        | some u => oSl x l u := rfl
@[simp] theorem oSl_t {ds : List PD} {lo hi : Option Int} : oSl (.fz (.tuple ds)) lo hi = some (.fz (.tuple (cut ds lo hi))) := rfl
@[simp] theorem boolsD_nil : boolsD [] = some [] := rfl
@[simp] theorem boolsD_cons {x : Bool} {ds : List PD} : boolsD (.bool x :: ds) = (boolsD ds).map (x :: ·) := rfl
@[simp] theorem intsD_nil : intsD [] = some [] := rfl
@[simp] theorem intsD_cons {x : Int} {ds : List PD} : intsD (.int x :: ds) = (intsD ds).map (x :: ·) := rfl
@[simp] theorem oAll_l {ds : List PD} : oAll [.fz (.list ds)] = (boolsD ds).map fun bs => .fz (.bool (bs.all id)) := rfl
@[simp] theorem oAny_l {ds : List PD} : oAny [.fz (.list ds)] = (boolsD ds).map fun bs => .fz (.bool (bs.any id)) := rfl
@[simp] theorem oAll_lst {ds : List PD} : oAll [.lst ds] = (boolsD ds).map fun bs => .fz (.bool (bs.all id)) := rfl
@[simp] theorem oAny_lst {ds : List PD} : oAny [.lst ds] = (boolsD ds).map fun bs => .fz (.bool (bs.any id)) := rfl
@[simp] theorem oSum_l {ds : List PD} : oSum [.fz (.list ds)] = match intsD ds with
    | some ns => some (.fz (.int ns.sum))
    | none => none := by
  show (match intsD ds with | some ns => (some (PyData.int ns.sum)).map O.fz | none => none) = _
  cases intsD ds <;> rfl
@[simp] theorem oSum_lst {ds : List PD} : oSum [.lst ds] = match intsD ds with
    | some ns => some (.fz (.int ns.sum))
    | none => none := by
  show (match intsD ds with | some ns => (some (PyData.int ns.sum)).map O.fz | none => none) = _
  cases intsD ds <;> rfl
@[simp] theorem oEq_b {x y : Bool} : oEq (.fz (.bool x)) (.fz (.bool y)) = some (.fz (.bool (decide (x = y)))) := by
  cases x <;> cases y <;> simp [oEq, oEqD, strs2, SeqAt.shaped, PyData.canLay0, PyData.depth, PyData.eqv]
@[simp] theorem oNe_b {x y : Bool} : oNe (.fz (.bool x)) (.fz (.bool y)) = some (.fz (.bool (!decide (x = y)))) := by
  cases x <;> cases y <;> simp [oNe, oNeD, strs2, SeqAt.shaped, PyData.canLay0, PyData.depth, PyData.eqv]
@[simp] theorem qDk0_eq : qDk0 ρ = some (.dic []) := rfl
@[simp] theorem toPD_dic {ds : List (Key × PD)} : toPD (.dic ds) = some (.dict (ds.map kp)) := rfl
@[simp] theorem oAdd_tt {xs ys : List PD} : oAdd (.fz (.tuple xs)) (.fz (.tuple ys)) = if xs.length + ys.length ≤ sizeLine then some (.fz (.tuple (xs ++ ys))) else none := rfl
@[simp] theorem oAdd_ll {xs ys : List PD} : oAdd (.fz (.list xs)) (.fz (.list ys)) = if xs.length + ys.length ≤ sizeLine then some (.fz (.list (xs ++ ys))) else none := rfl
end
/-- a comprehension, item by item -/
theorem lcGo_all {f : QG} {c : List O → Option Bool} {e : QE} {ρ : List O} {p : PD → Bool} {h : PD → PD} : ∀ {xs : List PD}, (∀ x ∈ xs, ∃ ρ1, f x ρ = some ρ1 ∧ c ρ1 = some (p x) ∧ (p x = true → e ρ1 = some (.fz (h x)))) → lcGo f c e ρ xs = some ((xs.filter p).map h)
  | [], _ => rfl
  | x :: xs, hx => by
    obtain ⟨ρ1, e1, e2, e3⟩ := hx x List.mem_cons_self
    have ih := lcGo_all (xs := xs) fun y m => hx y (List.mem_cons_of_mem _ m)
    rw [lcGo_cons, e1]
    simp only [e2]
    cases hp : p x with
    | false => simp [ih, hp]
    | true => simp [ih, hp, e3 hp]
theorem lcGo_map {f : QG} {e : QE} {ρ : List O} {h : PD → PD} {xs : List PD} (hx : ∀ x ∈ xs, ∃ ρ1, f x ρ = some ρ1 ∧ e ρ1 = some (.fz (h x))) : lcGo f qYes e ρ xs = some (xs.map h) := by
  have := lcGo_all (f := f) (c := qYes) (e := e) (ρ := ρ) (p := fun _ => true) (h := h) (xs := xs) fun x m => by
    obtain ⟨ρ1, e1, e2⟩ := hx x m
    exact ⟨ρ1, e1, rfl, fun _ => e2⟩
  rw [this, show xs.filter (fun _ => true) = xs from List.filter_eq_self.mpr fun _ _ => rfl]
/-! ### plain data, to a depth -/
def plainD : Nat → PD → Prop
  | _, .none => True
  | _, .bool _ => True
  | _, .int _ => True
  | _, .str _ => True
  | n + 1, .list ds => ds.length ≤ sizeLine ∧ ∀ x ∈ ds, plainD n x
  | n + 1, .tuple ds => ds.length ≤ sizeLine ∧ ∀ x ∈ ds, plainD n x
  | _, _ => False
theorem zip_self : ∀ ds : List PD, zipD ds ds = ds.map fun x => pairD x x
  | [] => rfl
  | d :: ds => congrArg (pairD d d :: ·) (zip_self ds)
theorem boolsD_true {α : Type} (xs : List α) : boolsD (xs.map fun _ => .bool true) = some (xs.map fun _ => true) := by
  have := boolsD_map (xs.map fun _ => true)
  rwa [List.map_map] at this
end FM
namespace FM
open PySem PySem.Spec L2 PyProof.Rows
/-! ### zip of lists and tuples in any mix -/
def SqB (b : Bool) (K : Frag) (H : Hp) (a : Addr) (xs : List V) : Prop := match b with
  | true => SqL K H a xs
  | false => SqT K H a xs
def AtB (b : Bool) (h : Heap) (a : Addr) (its : Array Value) : Prop := match b with
  | true => h.IsList a its
  | false => h.IsTuple a its
def IterB (b : Bool) (h : Heap) (it a : Addr) (i : Nat) : Prop := match b with
  | true => h.IsListIter it a i
  | false => h.IsTupleIter it a i
theorem sqB_inv {X : Cx} {pins : List (Addr × Obj)} {σ : L2.St} {H : Hp} {s : Shared} {b : Bool} {a : Addr} {xs : List V} (I : Inv X pins σ H s) (h : SqB b X.K H a xs) : ∃ its : List Value, Vals xs its ∧ AtB b s.heap a its.toArray := by
  cases b with
  | true =>
    obtain ⟨its, rv, p, _⟩ := I.list h
    exact ⟨its, rv, p.isList⟩
  | false =>
    obtain ⟨its, rv, p, _⟩ := I.tuple h
    exact ⟨its, rv, p⟩
theorem sqB_inj {X : Cx} {pins : List (Addr × Obj)} {σ : L2.St} {H : Hp} {s : Shared} {b : Bool} {a : Addr} {xs ys : List V} (I : Inv X pins σ H s) (h1 : SqB b X.K H a xs) (h2 : SqB b X.K H a ys) : xs = ys := by
  cases b with
  | true => exact I.list_inj h1 h2
  | false => exact I.tuple_inj h1 h2
section
variable {P : Program} {w : World} {A : Around} {it a : Addr} {items : Array Value}
theorem IterB.at {b : Bool} {h h' : Heap} {i : Nat} (x : IterB b h it a i) (k : ∀ o, h.get? it = some o → h'.get? it = some o) : IterB b h' it a i := by
  cases b with
  | true => exact Heap.IsListIter.at x k
  | false => exact Heap.IsTupleIter.at x k
theorem AtB.at {b : Bool} {h h' : Heap} (x : AtB b h a items) (k : ∀ o, h.get? a = some o → h'.get? a = some o) : AtB b h' a items := by
  cases b with
  | true => exact Heap.IsList.at x k
  | false => exact Heap.IsTuple.at x k
theorem IterB.ob {b : Bool} {h : Heap} {i : Nat} (x : IterB b h it a i) : ∃ o, h.get? it = some o ∧ ∀ v, o.data ≠ .cell v := by
  cases b with
  | true => obtain ⟨o, e, _, d⟩ := x; exact ⟨o, e, fun v q => by rw [d] at q; cases q⟩
  | false => obtain ⟨o, e, _, d⟩ := x; exact ⟨o, e, fun v q => by rw [d] at q; cases q⟩
theorem AtB.lt {b : Bool} {h : Heap} (x : AtB b h a items) : a < h.objs.size := by
  cases b with
  | true => obtain ⟨o, e, _⟩ := x; exact Heap.lt_size e
  | false => obtain ⟨o, e, _⟩ := x; exact Heap.lt_size e
theorem drawsB (b : Bool) (hh : A.handled = none) (hne : a ≠ it) : Draws P w A it [it, a] items.size (fun i v => items[i]? = some v) (fun i h => IterB b h it a i ∧ AtB b h a items) := by
  cases b with
  | true => exact Draws.list hh it a hne items
  | false => exact Draws.tuple hh it a hne items
/-- where it has come to its end -/
theorem drawsEnd (b : Bool) (hh : A.handled = none) {i : Nat} (hi : items[i]? = none) : Draws P w A it [it, a] i (fun _ _ => False) (fun j h => j = i ∧ IterB b h it a i ∧ AtB b h a items) where
  live := fun j h st => let ⟨o, e, _⟩ := st.2.1.ob; ⟨o, e⟩
  frame := fun j h h' st k => ⟨st.1, st.2.1.at (k it List.mem_cons_self), st.2.2.at (k a (by simp))⟩
  item := fun j s Q E hj st hQ => absurd st.1 (Nat.ne_of_lt hj)
  done := fun s Q E st hE => by
    cases b with
    | true => exact wpAny_nextOf_list_end hh st.2.1 st.2.2 hi hE
    | false => exact wpAny_nextOf_tuple_end hh st.2.1 st.2.2 hi hE
theorem beginsB (b : Bool) (a : Addr) (items : Array Value) : ∃ o, Begins (.ref a) o (fun h => AtB b h a items) ∧ ∀ (h : Heap) (it : Addr), h.get? it = some o → IterB b h it a 0 := by
  cases b with
  | true => exact ⟨_, begins_list a items, fun h it e => ⟨_, e, rfl, rfl⟩⟩
  | false => exact ⟨_, begins_tuple a items, fun h it e => ⟨_, e, rfl, rfl⟩⟩
end
def Itm (K : Frag) (b1 b2 : Bool) (a b : Addr) : It :=
  ⟨fun i H => ∃ (xs ys : List V) (x y : V), SqB b1 K H a xs ∧ SqB b2 K H b ys ∧ xs[i]? = some x ∧ ys[i]? = some y,
    fun i H v H' => ∃ (T : Addr) (x y : V), v = .ref T ∧ H T = none ∧ H' = upd H T (.tup [x, y]) ∧ (∀ xs, SqB b1 K H a xs → xs[i]? = some x) ∧ ∀ ys, SqB b2 K H b ys → ys[i]? = some y,
    fun i H => ∃ xs ys : List V, SqB b1 K H a xs ∧ SqB b2 K H b ys ∧ (xs.length ≤ i ∨ ys.length ≤ i)⟩
def tnM (b1 b2 : Bool) (z TI TO i1 i2 a b : Addr) (i : Nat) (h : Heap) : Prop := IsZip h z TI TO .none ∧ IsTupOf2 h TI (.ref i1) (.ref i2) ∧ (∃ x y, IsTupOf2 h TO x y) ∧ IterB b1 h i1 a i ∧ IterB b2 h i2 b i
theorem turn_zipM {P : Program} {w : World} {K : Frag} {elts : List Expr} {kk : Nat} {tpos : Pos} {b1 b2 : Bool} {a b z TI TO i1 i2 : Addr} (S : ZipSep2 z TI TO i1 i2 [i1, a] [i2, b]) (ha : a ≠ i1) (hb : b ≠ i2) :
    Turn P w K (.Tuple elts kk tpos) (Itm K b1 b2 a b) [z, TI, TO, i1, i2] z (tnM b1 b2 z TI TO i1 i2 a b) where
  mem := List.mem_cons_self
  obj := fun i h st c hc => by
    obtain ⟨q1, q2, ⟨x, y, q3⟩, q4, q5⟩ := st
    simp only [List.mem_cons, List.not_mem_nil, or_false] at hc
    rcases hc with rfl | rfl | rfl | rfl | rfl
    · exact ⟨_, q1, fun v q => by cases q⟩
    · exact ⟨_, q2, fun v q => by cases q⟩
    · exact ⟨_, q3, fun v q => by cases q⟩
    · exact q4.ob
    · exact q5.ob
  keep := fun i h h' st k => by
    obtain ⟨q1, q2, ⟨x, y, q3⟩, q4, q5⟩ := st
    exact ⟨k z List.mem_cons_self _ q1, k TI (by simp) _ q2, ⟨x, y, k TO (by simp) _ q3⟩, q4.at (k i1 (by simp)), q5.at (k i2 (by simp))⟩
  item := by
    rintro X rfl rfl rfl hc i pins s σ H E I hf ⟨q1, q2, q3, q4, q5⟩ ⟨xs, ys, x, y, g1, g2, e1, e2⟩
    obtain ⟨its1, r1, p1⟩ := sqB_inv I g1
    obtain ⟨its2, r2, p2⟩ := sqB_inv I g2
    obtain ⟨u1, o1, w1⟩ := r1.get e1
    obtain ⟨u2, o2, w2⟩ := r2.get e2
    have hd : X.A.in1.handled = none := I.ok.hd hc
    have l1 : i < its1.length := (List.getElem?_eq_some_iff.mp o1).1
    have l2 : i < its2.length := (List.getElem?_eq_some_iff.mp o2).1
    have G := GoesN.zip2 (elts := elts) (x1 := kk) (pos := tpos) S (drawsB (P := X.prog) (w := X.w) (items := its1.toArray) b1 hd ha) (drawsB (P := X.prog) (w := X.w) (items := its2.toArray) b2 hd hb)
    refine G.goes i s (fun u s2 => ∃ x H', Inv X pins σ H' s2 ∧ RelV x u ∧ (Itm X.K b1 b2 a b).yld i H x H' ∧ tnM b1 b2 z TI TO i1 i2 a b (i + 1) s2.heap ∧ ∀ b ∈ [z, TI, TO, i1, i2], H' b = none) E (by simp; omega) ⟨q1, q2, q3, ⟨q4, p1⟩, ⟨q5, p2⟩⟩ ?_
    rintro v h' tk ⟨T, v1, v2, rfl, hT, a1, a2, c⟩ ⟨t1, t2, t3, t4, t5⟩ hk htk
    rw [List.getElem?_toArray, o1] at a1
    rw [List.getElem?_toArray, o2] at a2
    cases a1
    cases a2
    obtain ⟨oT, c1, c2, c3, c4⟩ := c
    have mk : ObjOk X.prog X.w (upd H T (.tup [x, y])) h' T (.tup [x, y]) := ⟨show 2 ≤ sizeLine by decide, [u1, u2], .cons w1 (.cons w2 .nil), oT, c1, c2, c3, c4⟩
    have I2 := I.turnedNew (t' := tk) (ch := [z, TI, TO, i1, i2]) (fun c o nc q => hk c o (fun m => nc (by simp at m ⊢; rcases m with m | m | m | m <;> simp [m])) q) hf hT mk
    refine ⟨.ref T, _, I2, rfl, ⟨T, x, y, rfl, I.hok.fresh hT, rfl, fun l hl => by rw [sqB_inj I hl g1]; exact e1, fun l hl => by rw [sqB_inj I hl g2]; exact e2⟩, ⟨t1, t2, t3, t4.1, t5.1⟩, fun c hm => ?_⟩
    obtain ⟨oc, ec, _⟩ : ∃ o, s.heap.get? c = some o ∧ True := by
      simp only [List.mem_cons, List.not_mem_nil, or_false] at hm
      rcases hm with rfl | rfl | rfl | rfl | rfl
      · exact ⟨_, q1, trivial⟩
      · exact ⟨_, q2, trivial⟩
      · obtain ⟨_, _, q3⟩ := q3; exact ⟨_, q3, trivial⟩
      · obtain ⟨o, e, _⟩ := q4.ob; exact ⟨o, e, trivial⟩
      · obtain ⟨o, e, _⟩ := q5.ob; exact ⟨o, e, trivial⟩
    have : c < T := Nat.lt_of_lt_of_le (Heap.lt_size ec) hT
    rw [upd_ne (Nat.ne_of_lt this)]
    exact (hf c hm).1
  done := by
    rintro X rfl rfl rfl hc i pins s σ H E I hf ⟨q1, q2, q3, q4, q5⟩ ⟨xs, ys, g1, g2, hz⟩
    obtain ⟨its1, r1, p1⟩ := sqB_inv I g1
    obtain ⟨its2, r2, p2⟩ := sqB_inv I g2
    have hd : X.A.in1.handled = none := I.ok.hd hc
    have n1 := r1.length
    have n2 := r2.length
    have fin : ∀ h' tk, (∀ b o, b ∉ [z, TO, i1, i2] → s.heap.get? b = some o → h'.get? b = some o) → s.toks ≤ tk → Inv X pins σ H { s with heap := h', toks := tk } := fun h' tk hk _ =>
      I.turnedL (t' := tk) (ch := [z, TI, TO, i1, i2]) (fun c o nc q => hk c o (fun m => nc (by simp at m ⊢; rcases m with m | m | m | m <;> simp [m])) q) hf
    by_cases c1 : xs.length ≤ i
    · have k1 : its1.toArray[i]? = none := by simp; omega
      by_cases c2 : ys.length ≤ i
      · have k2 : its2.toArray[i]? = none := by simp; omega
        have G := GoesN.zip2 (elts := elts) (x1 := kk) (pos := tpos) S (drawsEnd (P := X.prog) (w := X.w) (it := i1) (a := a) b1 hd k1) (drawsEnd (P := X.prog) (w := X.w) (it := i2) (a := b) b2 hd k2)
        exact G.stops s _ E (by rw [Nat.min_self]; exact ⟨q1, q2, q3, ⟨rfl, q4, p1⟩, ⟨rfl, q5, p2⟩⟩) fin
      · have G := GoesN.zip2 (elts := elts) (x1 := kk) (pos := tpos) S (drawsEnd (P := X.prog) (w := X.w) (it := i1) (a := a) b1 hd k1) (drawsB (P := X.prog) (w := X.w) (items := its2.toArray) b2 hd hb)
        have e : min i its2.toArray.size = i := by simp; omega
        exact G.stops s _ E (by rw [e]; exact ⟨q1, q2, q3, ⟨rfl, q4, p1⟩, ⟨q5, p2⟩⟩) fin
    · have k2 : its2.toArray[i]? = none := by simp; omega
      have G := GoesN.zip2 (elts := elts) (x1 := kk) (pos := tpos) S (drawsB (P := X.prog) (w := X.w) (items := its1.toArray) b1 hd ha) (drawsEnd (P := X.prog) (w := X.w) (it := i2) (a := b) b2 hd k2)
      have e : min its1.toArray.size i = i := by simp; omega
      exact G.stops s _ E (by rw [e]; exact ⟨q1, q2, q3, ⟨q4, p1⟩, ⟨rfl, q5, p2⟩⟩) fin
  self := fun A i s Q E st h => wpAny_pyIter_zip st.1 h
def iZipM (K : Frag) (ta : TA) : TI := fun σ H R => ta σ H fun vs H1 => ∃ (a b : Addr) (b1 b2 : Bool) (xs ys : List V), vs = [.ref a, .ref b] ∧ SqB b1 K H1 a xs ∧ SqB b2 K H1 b ys ∧ R (Itm K b1 b2 a b) H1
theorem pi_zipM {X : Cx} {e e2 : Expr} {ta : TA} {p pos tpos : Pos} {elts : List Expr} {kk : Nat} (hg : Gl X "zip") (hm : X.mg "zip" = none) (ha : PA X [e, e2] ta)
    (hs : starEach [e, e2] X.env = (false, eval e X.env) :: starEach [e2] X.env := by rfl) (hpl : (backTo pos (starEach [e2] X.env)).any (·.1) = false := by rfl) :
    PI X (.Tuple elts kk tpos) (.Call (.Name "zip" p) [e, e2] [] pos) (iZipM X.K ta) := by
  refine ⟨fun pins s σ H R I h => Call_ (ld_blt I hg hm PyProof.Rows.boot_zip (PyProof.Rows.callWith_type1 (thn (ha.run pos pins s σ H _ I h) fun us s1 ⟨vs, H1, I1, r1, q1⟩ => ?_) hs hpl))⟩
  obtain ⟨a, b, b1, b2, xs, ys, rfl, g1, g2, q⟩ := q1
  cases r1 with
  | cons r rr =>
    cases rr with
    | cons r' rr =>
      cases rr
      cases r
      cases r'
      obtain ⟨its1, _, p1⟩ := sqB_inv I1 g1
      obtain ⟨its2, _, p2⟩ := sqB_inv I1 g2
      obtain ⟨o1, B1, it1⟩ := beginsB b1 a its1.toArray
      obtain ⟨o2, B2, it2⟩ := beginsB b2 b its2.toArray
      have la := p1.lt
      have lb := p2.lt
      refine zip_begins2 B1 B2 p1 p2 fun h' k1 k2 k3 k4 k5 hsz hk => wpAny_pyIter_zip k1 ?_
      have S := zip_sep2 (N := s1.heap.objs.size) (fp1 := [a]) (fp2 := [b]) (fun c m => by rw [List.mem_singleton.mp m]; exact la) (fun c m => by rw [List.mem_singleton.mp m]; exact lb)
      refine ⟨s1.heap.objs.size + 4, [s1.heap.objs.size + 4, s1.heap.objs.size + 2, s1.heap.objs.size + 3, s1.heap.objs.size, s1.heap.objs.size + 1], tnM b1 b2 _ _ _ _ _ a b, _, H1, rfl, I1.kept (t' := s1.toks) hk,
        turn_zipM S (Nat.ne_of_lt la) (Nat.ne_of_lt (Nat.lt_succ_of_lt lb)), ⟨k1, k2, ⟨_, _, k3⟩, it1 _ _ k4, it2 _ _ k5⟩, fun c hc => ?_, q⟩
      have hle : s1.heap.objs.size ≤ c := by
        simp only [List.mem_cons, List.not_mem_nil, or_false] at hc
        rcases hc with rfl | rfl | rfl | rfl | rfl
        · exact Nat.le_add_right _ _
        · exact Nat.le_add_right _ _
        · exact Nat.le_add_right _ _
        · exact Nat.le_refl _
        · exact Nat.le_add_right _ _
      exact I1.fpOk hle (I1.hok.fresh hle)
def qZipV (r : List O → Option (List O)) : QI := fun ρ => match r ρ with
  | some [x, y] => match viA x, viA y with
    | some ds, some es => some (zipD ds es)
    | _, _ => none
  | _ => none
def qZipF (r : List O → Option (List O)) : QI := fun ρ => match r ρ with
  | some [x, y] => match fzA x, fzA y with
    | some ds, some es => some (zipD ds es)
    | _, _ => none
  | _ => none
section
variable {k : Kc} {P : Hp → Hp → Prop} {a b : Addr} {vs ws : List V} {ds es : List PD}
theorem walkD_zipM {b1 b2 : Bool} (hs : ∀ F H, P F H → FLe F H → SqB b1 k.K H a vs ∧ Reps k.K F vs ds ∧ SqB b2 k.K H b ws ∧ Reps k.K F ws es) (l1 : vs.length = ds.length) (l2 : ws.length = es.length) : WalkD k P (Itm k.K b1 b2 a b) (zipD ds es) := by
  refine ⟨fun i F H hi p f => ?_, fun F H p f => ?_, fun i F H x H' hi p f y => ?_⟩
  · obtain ⟨h1, h2, _⟩ := zip_at hi
    obtain ⟨s1, r1, s2, r2⟩ := hs F H p f
    exact ⟨vs, ws, vs[i], ws[i], s1, s2, List.getElem?_eq_getElem (by omega), List.getElem?_eq_getElem (by omega)⟩
  · obtain ⟨s1, r1, s2, r2⟩ := hs F H p f
    refine ⟨vs, ws, s1, s2, ?_⟩
    have : (zipD ds es).length = min ds.length es.length := by simp [zipD]
    omega
  · obtain ⟨h1, h2, h3⟩ := zip_at hi
    obtain ⟨s1, r1, s2, r2⟩ := hs F H p f
    obtain ⟨T, x1, y1, rfl, hT, rfl, e1, e2⟩ := y
    obtain ⟨v, g1, g2⟩ := r1.get (i := i) (d := ds[i]) (by simp [h1])
    obtain ⟨w, g3, g4⟩ := r2.get (i := i) (d := es[i]) (by simp [h2])
    rw [e1 vs s1] at g1
    rw [e2 ws s2] at g3
    cases g1
    cases g3
    rw [h3]
    exact pair_new f hT g2 g4
theorem sqB_sub {K : Frag} {F H F' H' : Hp} {b : Bool} {a : Addr} {xs : List V} (x : Xt F H F' H') (h : SqB b K H a xs) : SqB b K H' a xs := by
  cases b with
  | true => exact sqL_sub x.ex h
  | false => exact sqT_sub x.ex h
theorem vw_seqB {F H : Hp} {S : List Addr} {v : V} {o : O} {ds : List PD} (f : FLe F H) (w : Vw k F H S v o) (e : viA o = some ds) : ∃ (b : Bool) (a : Addr) (vs : List V), v = .ref a ∧ SqB b k.K H a vs ∧ Reps k.K F vs ds := by
  rcases viA_or e with e | e
  · obtain ⟨a, vs, rfl, g1, g2⟩ := w.seqL f e
    exact ⟨true, a, vs, rfl, g1, g2⟩
  · obtain ⟨a, vs, rfl, g1, g2⟩ := w.seqR f e
    exact ⟨false, a, vs, rfl, g1, g2⟩
theorem vw_fzB {F H : Hp} {S : List Addr} {v : V} {o : O} {ds : List PD} (w : Vw k F H S v o) (e : fzA o = some ds) : ∃ (b : Bool) (a : Addr) (vs : List V), v = .ref a ∧ (∀ F', Same F F' → SqB b k.K F' a vs) ∧ Reps k.K F vs ds := by
  rcases fzA_or e with e | e
  · obtain ⟨a, vs, rfl, g1, g2⟩ := w.fzL e
    exact ⟨true, a, vs, rfl, fun F' p => sqL_sub p g1, g2⟩
  · obtain ⟨a, vs, rfl, g1, g2⟩ := w.fzR e
    exact ⟨false, a, vs, rfl, fun F' p => g1 F' p, g2⟩
theorem sqB_le {K : Frag} {F H : Hp} {b : Bool} {a : Addr} {xs : List V} (f : FLe F H) (h : SqB b K F a xs) : SqB b K H a xs := by
  cases b with
  | true => exact sqL_le f h
  | false => exact sqT_le f h
theorem tiv_zip {ta : TA} {qs : List O → Option (List O)} (ha : TAv k ta qs) : TIv k (iZipM k.K ta) (qZipV qs) := by
  intro F H σ ρ S xs R q e g
  unfold qZipV at e
  split at e
  · rename_i x y e1
    split at e
    · rename_i ds es d1 d2
      cases e
      refine ha F H σ ρ S _ _ q e1 fun us F1 H1 x1 w1 => ?_
      cases w1 with
      | cons w ww =>
        cases ww with
        | cons w' ww =>
          cases ww
          obtain ⟨b1, a, vs, rfl, g1, g2⟩ := vw_seqB x1.fle w d1
          obtain ⟨b2, b, ws, rfl, g3, g4⟩ := vw_seqB x1.fle w' d2
          exact ⟨a, b, b1, b2, vs, ws, rfl, g1, g3, g _ F1 H1 x1 (walkD_zipM (fun F2 H2 p f => ⟨sqB_sub p g1, g2.sub p.sub, sqB_sub p g3, g4.sub p.sub⟩) g2.length g4.length)⟩
    · cases e
  · cases e
theorem tif_zipM {ta : TA} {qs : List O → Option (List O)} (ha : TAv k ta qs) : TIf k (iZipM k.K ta) (qZipF qs) := by
  intro F H σ ρ S xs R q e g
  unfold qZipF at e
  split at e
  · rename_i x y e1
    split at e
    · rename_i ds es d1 d2
      cases e
      refine ha F H σ ρ S _ _ q e1 fun us F1 H1 x1 w1 => ?_
      cases w1 with
      | cons w ww =>
        cases ww with
        | cons w' ww =>
          cases ww
          obtain ⟨b1, a, vs, rfl, g1, g2⟩ := vw_fzB w d1
          obtain ⟨b2, b, ws, rfl, g3, g4⟩ := vw_fzB w' d2
          exact ⟨a, b, b1, b2, vs, ws, rfl, sqB_le x1.fle (g1 F1 (Same.refl _)), sqB_le x1.fle (g3 F1 (Same.refl _)), g _ F1 H1 x1 (walkD_zipM (fun F2 H2 p f => ⟨sqB_le f (g1 F2 p), g2.sub p, sqB_le f (g3 F2 p), g4.sub p⟩) g2.length g4.length)⟩
    · cases e
  · cases e
end
section
variable {ρ : List O} {r : List O → Option (List O)}
@[simp] theorem qZipV_eq : qZipV r ρ = match r ρ with
    | some [x, y] => match viA x, viA y with
      | some ds, some es => some (zipD ds es)
      | _, _ => none
    | _ => none := rfl
@[simp] theorem qZipF_eq : qZipF r ρ = match r ρ with
    | some [x, y] => match fzA x, fzA y with
      | some ds, some es => some (zipD ds es)
      | _, _ => none
    | _ => none := rfl
end
end FM
namespace FM
open PySem PySem.Spec L2 PyProof.Rows
/-! ### facts for the laws -/
def up (n b : Int) : Int := (n + b - 1) / b * b
def thD (p : Int × Int) : PD := .tuple [.int p.1, .int p.2]
theorem pickI {xs : List Int} {lo hi i : Int} (h : ∀ x ∈ xs, lo ≤ x ∧ x ≤ hi) (h0 : 0 ≤ i) (h1 : i < xs.length) : ∃ z, lo ≤ z ∧ z ≤ hi ∧ atI (xs.map PyData.int) i = some (.int z) := by
  have e : i.toNat < xs.length := by omega
  have m := h _ (List.getElem_mem e)
  refine ⟨_, m.1, m.2, ?_⟩
  rw [atI_nn h0, List.getElem?_map, List.getElem?_eq_getElem e]
  rfl
def okT (ts : List (Int × Int)) : Prop := ∀ p ∈ ts, 1 ≤ p.1 ∧ p.1 ≤ 10 ^ 9 ∧ 1 ≤ p.2 ∧ p.2 ≤ 64
theorem at_th {ts : List (Int × Int)} {t : Nat} (h : t < ts.length) : atI (ts.map thD) (t : Int) = some (.tuple [.int (ts.getD t (1, 1)).1, .int (ts.getD t (1, 1)).2]) := by
  rw [atI_nn (by omega), List.getElem?_map]
  simp [thD, h]
theorem okT_at {ts : List (Int × Int)} {t : Nat} (o : okT ts) (h : t < ts.length) : 1 ≤ (ts.getD t (1, 1)).1 ∧ (ts.getD t (1, 1)).1 ≤ 10 ^ 9 ∧ 1 ≤ (ts.getD t (1, 1)).2 ∧ (ts.getD t (1, 1)).2 ≤ 64 := by
  apply o
  rw [List.getD_eq_getElem?_getD, List.getElem?_eq_getElem h]
  exact List.getElem_mem h
def natD (t : Nat) : PD := .int (t : Int)
theorem canLay_ints : ∀ l : List Int, PyData.canLayAll0 (l.map .int) = true
  | [] => by simp [PyData.canLayAll0]
  | i :: l => by simp [PyData.canLayAll0, PyData.canLay0, canLay_ints l]
theorem depth_ints : ∀ l : List Int, PyData.depthAll (l.map .int) = 0
  | [] => by simp [PyData.depthAll]
  | i :: l => by simp [PyData.depthAll, PyData.depth, depth_ints l]
theorem shaped_ints (l : List Int) : SeqAt.shaped (.list (l.map .int)) = true := by
  simp [SeqAt.shaped, PyData.canLay0, PyData.depth, canLay_ints, depth_ints]
theorem eqvAll_ints : ∀ l r : List Int, PyData.eqvAll (l.map .int) (r.map .int) = decide (l = r)
  | [], [] => by simp [PyData.eqvAll]
  | [], _ :: _ => by simp [PyData.eqvAll]
  | _ :: _, [] => by simp [PyData.eqvAll]
  | a :: l, b :: r => by
    simp only [List.map_cons, PyData.eqvAll, PyData.eqv, eqvAll_ints l r, beq_dec]
    rw [Bool.eq_iff_iff]
    simp
theorem eqv_ints (l r : List Int) : PyData.eqv (.list (l.map .int)) (.list (r.map .int)) = decide (l = r) := by
  rw [PyData.eqv, eqvAll_ints]
theorem strs2_none {x y : O} {l r : List PD} (h1 : toPD x = some (.list l)) : strs2 x y = none := by
  unfold strs2
  split
  · cases h1
  · rfl
theorem oNe_ints {x y : O} {l r : List Int} (h1 : toPD x = some (.list (l.map .int))) (h2 : toPD y = some (.list (r.map .int))) : oNe x y = some (.fz (.bool (!decide (l = r)))) := by
  unfold oNe oNeD
  rw [strs2_none (r := []) h1, h1, h2]
  simp [shaped_ints, eqv_ints]
theorem oEq_ints {x y : O} {l r : List Int} (h1 : toPD x = some (.list (l.map .int))) (h2 : toPD y = some (.list (r.map .int))) : oEq x y = some (.fz (.bool (decide (l = r)))) := by
  unfold oEq oEqD
  rw [strs2_none (r := []) h1, h1, h2]
  simp [shaped_ints, eqv_ints]
@[simp] theorem oNe_s {a b : Str} : oNe (.fz (.str a)) (.fz (.str b)) = some (.fz (.bool (!decide (a = b)))) := rfl
@[simp] theorem oEq_s {a b : Str} : oEq (.fz (.str a)) (.fz (.str b)) = some (.fz (.bool (decide (a = b)))) := rfl
theorem fPopAt_i {ds : List PD} {r : Int} (h0 : 0 ≤ r) (h1 : r < ds.length) (h2 : ds.length < 2 ^ 60) : ∃ d, ds[r.toNat]? = some d ∧ fPopAt ds [.int r] = some (d, ds.eraseIdx r.toNat) := by
  have e : r.toNat < ds.length := by omega
  refine ⟨ds[r.toNat], List.getElem?_eq_getElem e, ?_⟩
  have hb : big62 r = true := big62_of (by omega) (by omega)
  simp [fPopAt, hb, seqIndex_of h0 h1, List.getElem?_eq_getElem e]
theorem map_erase {α β : Type} (f : α → β) : ∀ (l : List α) (k : Nat), (l.map f).eraseIdx k = (l.eraseIdx k).map f
  | [], _ => rfl
  | _ :: _, 0 => rfl
  | a :: l, k + 1 => congrArg (f a :: ·) (map_erase f l k)
theorem up_mod {e b : Int} : up e b % b = 0 := Int.mul_emod_left _ _
theorem up_is {e b : Int} (hb : 0 < b) : e ≤ up e b ∧ up e b < e + b := by
  have h1 := Int.emod_nonneg (e + b - 1) (by omega : b ≠ 0)
  have h2 := Int.emod_lt_of_pos (e + b - 1) hb
  have h3 := Int.ediv_mul_add_emod (e + b - 1) b
  unfold up
  omega
theorem up_eq {e b p : Int} (hb : 0 < b) (h1 : e ≤ p) (h2 : p ≤ up e b) (h3 : p % b = 0) : p = up e b := by
  obtain ⟨u1, u2⟩ := up_is (e := e) hb
  have hm : (up e b - p) % b = 0 := by rw [Int.sub_emod, up_mod, h3]; simp
  rw [Int.emod_eq_of_lt (by omega) (by omega)] at hm
  omega
theorem cut_map {xs : List Int} {hi : Option Int} : cut (xs.map PyData.int) none hi = (cut xs none hi).map .int := by
  unfold cut
  rw [List.length_map, ← List.map_drop, ← List.map_take]
theorem cut_mem {xs : List Int} {hi : Option Int} {y : Int} (m : y ∈ cut xs none hi) : y ∈ xs := List.mem_of_mem_drop (List.mem_of_mem_take m)
theorem cut_len {xs : List Int} {hi : Option Int} : (cut xs none hi).length ≤ xs.length := by
  unfold cut
  rw [List.length_take, List.length_drop]
  omega
theorem rngD_at {n i : Nat} {x : PD} (h : (rngD 0 n)[i]? = some x) : x = .int (i : Int) ∧ i < n := by
  unfold rngD at h
  rw [List.getElem?_map] at h
  obtain ⟨j, e1, e2⟩ := Option.map_eq_some_iff.mp h
  have hi : i < n := by
    rcases Nat.lt_or_ge i n with z | z
    · exact z
    · rw [List.getElem?_eq_none (by simpa using z)] at e1; cases e1
  rw [List.getElem?_range hi] at e1
  cases e1
  exact ⟨by rw [← e2]; simp, hi⟩
theorem big62_s {i : Int} (h0 : -1000000 ≤ i) (h1 : i ≤ 1000000) : big62 i = true := big62_of (by omega) (by omega)
def rngI (n : Nat) : List Int := (List.range n).map fun i : Nat => (i : Int)
theorem rngD_map {n : Nat} : rngD 0 n = (rngI n).map .int := by
  unfold rngD rngI
  rw [List.map_map]
  apply List.map_congr_left
  intro i _
  simp
theorem rngI_mem {n : Nat} {y : Int} (m : y ∈ rngI n) : 0 ≤ y ∧ y < n := by
  unfold rngI at m
  obtain ⟨i, m2, rfl⟩ := List.mem_map.mp m
  have := List.mem_range.mp m2
  omega
@[simp] theorem oSl_l {ds : List PD} {lo hi : Option Int} : oSl (.fz (.list ds)) lo hi = some (.fz (.list (cut ds lo hi))) := rfl
theorem thD_fine {q : Int × Int} (h : 1 ≤ q.1 ∧ q.1 ≤ 10 ^ 9 ∧ 1 ≤ q.2 ∧ q.2 ≤ 64) : Fine 1 49 (thD q) :=
  (FineA.cons (Fine.int (by omega)) (FineA.cons (Fine.int (by omega)) FineA.nil)).tuple
theorem up_uniq {n b p : Int} (hb : 0 < b) (h1 : n ≤ p) (h2 : p < n + b) (h3 : p % b = 0) : p = up n b := by
  obtain ⟨u1, u2⟩ := up_is (e := n) hb
  have hm : (up n b - p) % b = 0 := by rw [Int.sub_emod, up_mod, h3]; simp
  have hm2 : (p - up n b) % b = 0 := by rw [Int.sub_emod, up_mod, h3]; simp
  rcases Int.le_total p (up n b) with z | z
  · rw [Int.emod_eq_of_lt (by omega) (by omega)] at hm
    omega
  · rw [Int.emod_eq_of_lt (by omega) (by omega)] at hm2
    omega
theorem up_neg {n b : Int} (hb : 0 < b) : n + (-n) % b = up n b := by
  have h1 := Int.emod_nonneg (-n) (by omega : b ≠ 0)
  have h2 := Int.emod_lt_of_pos (-n) hb
  refine up_uniq hb (by omega) (by omega) ?_
  rw [Int.add_emod, Int.emod_emod, ← Int.add_emod, Int.add_right_neg, Int.zero_emod]
theorem up_self {n b : Int} (hb : 0 < b) (h : n % b = 0) : up n b = n := (up_uniq hb (Int.le_refl _) (by omega) h).symm
theorem pickP {p : PD → Prop} {xs : List PD} {i : Int} (h : ∀ x ∈ xs, p x) (h0 : 0 ≤ i) (h1 : i < xs.length) : ∃ z, p z ∧ atI xs i = some z := by
  have e : i.toNat < xs.length := by omega
  exact ⟨_, h _ (List.getElem_mem e), by rw [atI_nn h0, List.getElem?_eq_getElem e]⟩
end FM
namespace FM
open PySem PySem.Spec L2 PyProof.Rows
/-! ### loops item by item, comparisons, pairs and places -/
section
variable {ρ : List O} {nx bk ct : List O → Prop} {rt : O → List O → Prop} {a : MS} {f : QG} {r : List O → Option (List O)}
@[simp] theorem wS_forNil : wS (forGo f a [] ρ) nx rt bk ct = nx ρ := rfl
theorem wS_forCons {x : PD} {xs : List PD} : wS (forGo f a (x :: xs) ρ) nx rt bk ct = ∃ ρ1, f x ρ = some ρ1 ∧ wS (a ρ1) (fun ρ2 => wS (forGo f a xs ρ2) nx rt bk ct) rt nx (fun ρ2 => wS (forGo f a xs ρ2) nx rt bk ct) := by
  have e : forGo f a (x :: xs) ρ = match f x ρ with
    | none => .bad
    | some ρ1 => match a ρ1 with
      | .next ρ2 => forGo f a xs ρ2
      | .cont ρ2 => forGo f a xs ρ2
      | .brk ρ2 => .next ρ2
      | .ret o ρ2 => .ret o ρ2
      | .exc x ρ2 => .exc x ρ2
      | .bad => .bad := rfl
  rw [e]
  cases e1 : f x ρ with
  | none => simp [wS]
  | some ρ1 =>
    cases e2 : a ρ1 <;> simp [wS, e2]
@[simp] theorem qRng2_eq : qRng2 r ρ = match r ρ with
    | some [.fz (.int i), .fz (.int j)] => if big62 i && big62 j then some (rngD i (j - i).toNat) else none
    | _ => none := rfl
theorem oStr_i {i : Int} (h : i.natAbs < 2 ^ 1900) : oStr [.fz (.int i)] = some (.fz (.str (toString i))) := if_pos h
theorem oNe_self {d : PD} (h : SeqAt.shaped d = true) : oNe (.fz d) (.fz d) = some (.fz (.bool false)) := by
  have hc : d.canLay0 = true := by unfold SeqAt.shaped at h; simp at h; exact h.1
  unfold oNe
  cases e : strs2 (.fz d) (.fz d) with
  | some p =>
    obtain ⟨e1, e2⟩ := strs2_eq e
    have e3 := e1.symm.trans e2
    have e4 : p.1 = p.2 := by
      injection e3 with e3
      injection e3
    simp [e4]
  | none => simp [oNeD, h, SeqAt.eqv_refl d hc]
theorem oEq_self {d : PD} (h : SeqAt.shaped d = true) : oEq (.fz d) (.fz d) = some (.fz (.bool true)) := by
  have hc : d.canLay0 = true := by unfold SeqAt.shaped at h; simp at h; exact h.1
  unfold oEq
  cases e : strs2 (.fz d) (.fz d) with
  | some p =>
    obtain ⟨e1, e2⟩ := strs2_eq e
    have e3 := e1.symm.trans e2
    have e4 : p.1 = p.2 := by
      injection e3 with e3
      injection e3
    simp [e4]
  | none => simp [oEqD, h, SeqAt.eqv_refl d hc]
theorem shaped_nil : SeqAt.shaped (.list []) = true := by simp [SeqAt.shaped, PyData.canLay0, PyData.canLayAll0, PyData.depth, PyData.depthAll]
theorem oNe_nil {ds : List PD} (h : SeqAt.shaped (.list ds) = true) : oNe (.fz (.list ds)) (.fz (.list [])) = some (.fz (.bool (!ds.isEmpty))) := by
  unfold oNe
  rw [strs2_none (l := ds) (r := []) rfl]
  cases ds <;> simp [oNeD, h, shaped_nil, PyData.eqv, PyData.eqvAll]
theorem oEq_nil {ds : List PD} (h : SeqAt.shaped (.list ds) = true) : oEq (.fz (.list ds)) (.fz (.list [])) = some (.fz (.bool ds.isEmpty)) := by
  unfold oEq
  rw [strs2_none (l := ds) (r := []) rfl]
  cases ds <;> simp [oEqD, h, shaped_nil, PyData.eqv, PyData.eqvAll]
end
theorem boolsD_fun {α : Type} {g : α → Bool} (xs : List α) : boolsD (xs.map fun x => .bool (g x)) = some (xs.map g) := by
  have := boolsD_map (xs.map g)
  rwa [List.map_map] at this
theorem oAll_map {α : Type} {g : α → Bool} {xs : List α} : oAll [.fz (.list (xs.map fun x => .bool (g x)))] = some (.fz (.bool (xs.all g))) := by
  rw [oAll_l, boolsD_fun, Option.map_some, List.all_map]
  rfl
theorem oAny_map {α : Type} {g : α → Bool} {xs : List α} : oAny [.fz (.list (xs.map fun x => .bool (g x)))] = some (.fz (.bool (xs.any g))) := by
  rw [oAny_l, boolsD_fun, Option.map_some, List.any_map]
  rfl
theorem at_pl {pl : List Int} {t : Nat} (h : t < pl.length) : atI (pl.map PyData.int) (t : Int) = some (.int (pl.getD t 0)) := by
  rw [atI_nn (by omega), List.getElem?_map]
  simp [h]
def prD (q : Nat × Nat) : PD := .tuple [.int (q.1 : Int), .int (q.2 : Int)]
def okP (m : Nat) (ps : List (Nat × Nat)) : Prop := ∀ q ∈ ps, q.1 < q.2 ∧ q.2 < m
def lieO (p s p' s' : Int) : Bool := decide (p < p' + s') && decide (p' < p + s)
def overG (ts : List (Int × Int)) (pl : List Int) (q : Nat × Nat) : Bool := lieO (pl.getD q.1 0) (ts.getD q.1 (1, 1)).1 (pl.getD q.2 0) (ts.getD q.2 (1, 1)).1
def pOk (b : Int) : PD → Bool
  | .int i => decide (0 ≤ i) && decide (i % b = 0)
  | _ => false
def allOk : List PD → List (Int × Int) → Bool
  | x :: ds, t :: ts => pOk t.2 x && allOk ds ts
  | _, _ => true
def placesOk (ts : List (Int × Int)) : PD → Bool
  | .list ds => decide (ds.length = ts.length) && allOk ds ts
  | _ => false
theorem allOk_ints : ∀ {ds : List PD} {ts : List (Int × Int)}, ds.length = ts.length → allOk ds ts = true → ∃ pl : List Int, ds = pl.map .int ∧ pl.length = ts.length
  | [], [], _, _ => ⟨[], rfl, rfl⟩
  | [], _ :: _, h, _ => by cases h
  | _ :: _, [], h, _ => by cases h
  | x :: ds, t :: ts, hl, h => by
    simp [allOk] at h
    obtain ⟨pl, rfl, l⟩ := allOk_ints (by simpa using hl) h.2
    cases x with
    | int i => exact ⟨i :: pl, rfl, by simp [l]⟩
    | _ => simp [pOk] at h
theorem placesOk_ints {ts : List (Int × Int)} {d : PD} (h : placesOk ts d = true) : ∃ pl : List Int, d = .list (pl.map .int) ∧ pl.length = ts.length := by
  cases d with
  | list ds =>
    simp [placesOk] at h
    obtain ⟨pl, rfl, l⟩ := allOk_ints h.1 h.2
    exact ⟨pl, rfl, l⟩
  | _ => simp [placesOk] at h
theorem allOk_of : ∀ {pl : List Int} {ts : List (Int × Int)}, pl.length = ts.length → (∀ t, t < ts.length → 0 ≤ pl.getD t 0 ∧ pl.getD t 0 % (ts.getD t (1, 1)).2 = 0) → allOk (pl.map .int) ts = true
  | [], [], _, _ => rfl
  | [], _ :: _, h, _ => by cases h
  | _ :: _, [], h, _ => by cases h
  | p :: pl, t :: ts, hl, h => by
    have h0 := h 0 (by simp)
    have ih := allOk_of (pl := pl) (ts := ts) (by simpa using hl) fun j hj => by
      have := h (j + 1) (by simpa using hj)
      simpa using this
    simp at h0
    simp [allOk, pOk, ih, h0]
theorem placesOk_of {pl : List Int} {ts : List (Int × Int)} (hl : pl.length = ts.length) (h : ∀ t, t < ts.length → 0 ≤ pl.getD t 0 ∧ pl.getD t 0 % (ts.getD t (1, 1)).2 = 0) : placesOk ts (.list (pl.map .int)) = true := by
  simp [placesOk, hl, allOk_of hl h]
def prsD (o : Option (Nat × Nat)) : PD := match o with
  | some q => prD q
  | none => .none
theorem prs_fine {m : Nat} {ps : List (Nat × Nat)} (h : okP m ps) (hm : m ≤ 1000000) : Fine 2 (ps.length * 51 + 2) (.list (ps.map prD)) := by
  have := (FineA.all (ds := ps.map prD) (h := 1) (n := 49) (fun d mm => by
    obtain ⟨q, mq, rfl⟩ := List.mem_map.mp mm
    have := h q mq
    exact (FineA.cons (Fine.int (by omega)) (FineA.cons (Fine.int (by omega)) FineA.nil)).tuple)).list
  rwa [List.length_map] at this
theorem ths_fine {ts : List (Int × Int)} (ho : okT ts) : Fine 2 (ts.length * 51 + 3) (.tuple (ts.map thD)) := by
  have := (FineA.all (ds := ts.map thD) (h := 1) (n := 49) (fun d m => by
    obtain ⟨q, mq, rfl⟩ := List.mem_map.mp m
    exact thD_fine (ho q mq))).tuple
  rwa [List.length_map] at this
theorem ints_fine {xs : List Int} (h : ∀ x ∈ xs, x.natAbs < 2 ^ 64) : Fine 1 (xs.length * 23 + 2) (.list (xs.map .int)) := by
  have := (FineA.all (ds := xs.map .int) (h := 0) (n := 21) (fun d m => by
    obtain ⟨q, mq, rfl⟩ := List.mem_map.mp m
    exact Fine.int (h q mq))).list
  rwa [List.length_map] at this
theorem rngD_atL {lo : Int} {n i : Nat} {x : PD} (h : (rngD lo n)[i]? = some x) : x = .int (lo + (i : Int)) ∧ i < n := by
  unfold rngD at h
  rw [List.getElem?_map] at h
  obtain ⟨j, e1, e2⟩ := Option.map_eq_some_iff.mp h
  have hi : i < n := by
    rcases Nat.lt_or_ge i n with z | z
    · exact z
    · rw [List.getElem?_eq_none (by simpa using z)] at e1; cases e1
  rw [List.getElem?_range hi] at e1
  cases e1
  exact ⟨e2.symm, hi⟩
@[simp] theorem rngD_len {lo : Int} {n : Nat} : (rngD lo n).length = n := by simp [rngD]
end FM
namespace FM
open PySem PySem.Spec L2 PyProof.Rows
open PySem.W (dataLe EachIs AllAlike Sortable alike)
/-! ### sorted of data of one kind -/
def rSortedX (K : Frag) : List V → Hp → VK → Prop := fun vs H Q => ∃ (a : Addr) (zs : List (V × PD)), vs = [V.ref a] ∧ SqL K H a (zs.map Prod.fst) ∧ (∀ z ∈ zs, Dp K H z.1 z.2) ∧ AllAlike (zs.map Prod.snd) ∧ Sortable (zs.map Prod.snd) ∧ (∀ z ∈ zs, z.2.depth ≤ 40) ∧
  ∀ p, H p = none → Q (.ref p) (upd H p (.lst ((zs.mergeSort (dataLe false Prod.snd)).map Prod.fst)))
theorem each_vals : ∀ {zs : List (V × PD)} {us : List Value}, Vals (zs.map Prod.fst) us → EachIs (fun v (b : V × PD) => RelV b.1 v) us zs
  | [], _, r => by
    cases r
    exact .nil
  | z :: zs, _, r => by
    cases r with
    | cons h t => exact .cons h (each_vals t)
theorem vals_each : ∀ {zs : List (V × PD)} {us : List Value}, EachIs (fun v (b : V × PD) => RelV b.1 v) us zs → Vals (zs.map Prod.fst) us
  | [], _, r => by
    cases r
    exact .nil
  | z :: zs, _, r => by
    cases r with
    | cons h t => exact .cons h (vals_each t)
theorem each_in {R : Value → V × PD → Prop} : ∀ {zs : List (V × PD)} {us : List Value}, EachIs R us zs → EachIs (fun v b => R v b ∧ b ∈ zs) us zs
  | [], _, r => by
    cases r
    exact .nil
  | z :: zs, _, r => by
    cases r with
    | cons h t => exact .cons ⟨h, List.mem_cons_self⟩ ((each_in t).mono fun a b q => ⟨q.1, List.mem_cons_of_mem _ q.2⟩)
theorem cr_sortedX {X : Cx} (hu : X.A.units + 64 < cLine) : CallR X (.builtin "sorted") (rSortedX X.K) := by
  intro pins s σ H vs us Q I r h
  obtain ⟨a, zs, rfl, hs, hd, hal, hk, hdp, q⟩ := h
  obtain ⟨its, rv, hl, hz⟩ := I.list hs
  rw [Vals.ref1 r]
  have e := each_vals rv
  have er : EachIs (fun v (b : V × PD) => ∃ as, Reads s.heap v b.2 as) its zs := (each_in e).mono fun v b ⟨h1, h2⟩ => Dp.reads I b.2 b.1 v (hd b h2) h1
  have hL : zs.length ≤ sizeLine := by rw [List.length_map] at hz; exact hz
  refine PySem.W.sorted_data (enc := Prod.snd) hl.isList e er hal hk hL (fun b m => by have := hdp b m; omega) fun out ho hr => ?_
  have rv2 := vals_each hr
  obtain ⟨ep, he⟩ := PyProof.Rows.sortedAll_at s.heap its out.toArray
  have hlen : ((zs.mergeSort (dataLe false Prod.snd)).map Prod.fst).length ≤ sizeLine := by
    rw [List.length_map, List.length_mergeSort]
    exact hL
  exact ⟨.ref _, upd H (s.heap.objs.size + 1) (.lst ((zs.mergeSort (dataLe false Prod.snd)).map Prod.fst)), I.laid (t' := s.toks) (fun _ _ => PyProof.Rows.sortedAll_old) (Nat.le_succ _) ⟨hlen, out, ep, rv2, he⟩, rfl, q _ (I.hok.fresh (Nat.le_succ _))⟩
def rSortedU (K : Frag) : List V → Hp → VK → Prop := fun vs H Q => rSortedI K vs H Q ∨ rSortedX K vs H Q
theorem cr_sortedU {X : Cx} (hu : X.A.units + 64 < cLine) : CallR X (.builtin "sorted") (rSortedU X.K) := by
  intro pins s σ H vs us Q I r h
  rcases h with h | h
  · exact cr_sortedI pins s σ H vs us Q I r h
  · exact cr_sortedX hu pins s σ H vs us Q I r h
def tupC : PD → Bool
  | .tuple (_ :: _) => true
  | _ => false
def notNT : PD → Bool
  | .none => false
  | .tuple _ => false
  | _ => true
def sortC (ds : List PD) : Bool := ds.all (fun d => ds.all fun e => alike d e) && (ds.all tupC || ds.all notNT) && ds.all (fun d => decide (d.depth ≤ 40) && d.canLay0)
def sortD (ds : List PD) : List PD := ds.mergeSort (dataLe false id)
def oSortU : List O → Option O
  | [x] => match seqL x with
    | some ds => match intsD ds with
      | some ns => some (.lst ((sortI ns).map .int))
      | none => if sortC ds then some (.lst (sortD ds)) else none
    | none => none
  | _ => none
theorem reps_mem {K : Frag} {F : Hp} : ∀ {l : List (V × PD)}, (∀ z ∈ l, Rep K F z.1 z.2) → Reps K F (l.map Prod.fst) (l.map Prod.snd)
  | [], _ => .nil
  | z :: l, h => .cons (h z List.mem_cons_self) (reps_mem fun y m => h y (List.mem_cons_of_mem _ m))
theorem zip_reps {K : Frag} {F : Hp} : ∀ {vs : List V} {ds : List PD}, Reps K F vs ds → (∀ z ∈ vs.zip ds, Rep K F z.1 z.2) ∧ (vs.zip ds).map Prod.fst = vs ∧ (vs.zip ds).map Prod.snd = ds
  | _, _, .nil => ⟨fun z m => by simp at m, rfl, rfl⟩
  | v :: vs, d :: ds, .cons h r => by
    obtain ⟨h1, h2, h3⟩ := zip_reps r
    refine ⟨fun z m => ?_, by simp [h2], by simp [h3]⟩
    rcases List.mem_cons.mp (by simpa using m) with e | m
    · rw [e]; exact h
    · exact h1 z m
theorem cn_sortU {k : Kc} : CbN k (rSortedU k.K) oSortU := by
  intro F H S xs os o Q f off th ws e h
  unfold oSortU at e
  split at e
  · cases ws with
    | cons w ws =>
      cases ws
      split at e
      · rename_i ds es
        obtain ⟨a, vs, rfl, g1, g2⟩ := w.seqL f es
        split at e
        · rename_i ns en
          cases e
          have e3 := intsD_eq en
          subst e3
          rw [reps_ints g2] at g1
          refine .inl ⟨a, ns, rfl, g1, fun ns' p hp hs hn => ?_⟩
          rw [sorted_unique (hp.trans (sortI_perm ns).symm) hs (sortI_sorted ns)]
          exact own_list f (ints_reps (sortI ns)) h p hn
        · split at e
          · rename_i hc
            cases e
            obtain ⟨z1, z2, z3⟩ := zip_reps g2
            unfold sortC at hc
            simp only [Bool.and_eq_true] at hc
            obtain ⟨⟨c1, c2⟩, c3⟩ := hc
            have hm : ∀ z ∈ vs.zip ds, z.2 ∈ ds := fun z m => by rw [← z3]; exact List.mem_map.mpr ⟨z, m, rfl⟩
            have c3' : ∀ d ∈ ds, d.depth ≤ 40 ∧ d.canLay0 = true := fun d m => by
              have := List.all_eq_true.mp c3 d m
              simp at this
              exact this
            have srt : ((vs.zip ds).mergeSort (dataLe false Prod.snd)).map Prod.snd = sortD ds := by
              have e1 := PySem.W.sort_maps (r := dataLe false Prod.snd) (s := dataLe false id) (Prod.snd : V × PD → PD) (l := vs.zip ds) (fun _ _ _ _ => rfl)
              rw [e1, z3]
              rfl
            refine .inr ⟨a, vs.zip ds, rfl, by rw [z2]; exact g1, fun z m => ((z1 z m).le f).dp (c3' _ (hm z m)).2, ?_, ?_, fun z m => (c3' _ (hm z m)).1, fun p hn => ?_⟩
            · rw [z3]
              intro d m d' m'
              exact List.all_eq_true.mp (List.all_eq_true.mp c1 d m) d' m'
            · rw [z3]
              rcases Bool.or_eq_true_iff.mp c2 with c2 | c2
              · refine .inl fun d m => ?_
                have := List.all_eq_true.mp c2 d m
                unfold tupC at this
                split at this
                · exact ⟨_, _, rfl⟩
                · cases this
              · refine .inr fun d m => ?_
                have := List.all_eq_true.mp c2 d m
                cases d with
                | none => cases this
                | tuple ds => cases this
                | _ => exact ⟨by simp, by simp⟩
            · have rr := reps_mem (K := k.K) (F := F) (l := (vs.zip ds).mergeSort (dataLe false Prod.snd)) fun z m => z1 z (List.mem_mergeSort.mp m)
              rw [srt] at rr
              exact own_list f rr h p hn
          · cases e
      · cases e
  · cases e
end FM
namespace FM
open PySem PySem.Spec L2 PyProof.Rows
/-! ### range(i, j, c) -/
def rngC (lo c : Int) (n : Nat) : List PD := (List.range n).map fun i => PyData.int (lo + (i : Nat) * c)
theorem walkD_rangeC {k : Kc} {P : Hp → Hp → Prop} {lo c : Int} {n : Nat} : WalkD k P (Itc lo c n) (rngC lo c n) := by
  have hl : (rngC lo c n).length = n := by simp [rngC]
  refine ⟨fun i F H hi _ _ => ?_, fun F H _ _ => ?_, fun i F H x H' hi p f y => ?_⟩
  · show i < n
    omega
  · show n ≤ (rngC lo c n).length
    omega
  · obtain ⟨rfl, rfl⟩ := y
    refine ⟨F, Xt.refl f, ?_⟩
    rw [show (rngC lo c n)[i] = PyData.int (lo + (i : Nat) * c) by simp [rngC]]
    exact .int _
def rgC (i j c : Int) : Bool := decide (c ≠ 0) && decide (c.natAbs < 1073741824) && Builtin.Range.small i j c
def qRng3 (r : List O → Option (List O)) : QI := fun ρ => match r ρ with
  | some [.fz (.int i), .fz (.int j), .fz (.int c)] => if rgC i j c then some (rngC i c (Builtin.Range.rangeSize i j c).toNat) else none
  | _ => none
theorem tif_rng3 {k : Kc} {ta : TA} {qs : List O → Option (List O)} (ha : TAv k ta qs) : TIf k (iRng3 ta) (qRng3 qs) := by
  intro F H σ ρ S ds R q e g
  unfold qRng3 at e
  split at e
  · rename_i i j c e1
    split at e
    · rename_i hz
      cases e
      unfold rgC at hz
      simp only [Bool.and_eq_true, decide_eq_true_eq] at hz
      refine ha F H σ ρ S _ _ q e1 fun vs F1 H1 x1 w1 => ?_
      cases w1 with
      | cons w ws =>
        cases ws with
        | cons w2 ws =>
          cases ws with
          | cons w3 ws =>
            cases ws
            have ew := w.int
            have ew2 := w2.int
            have ew3 := w3.int
            subst ew ew2 ew3
            exact ⟨i, j, c, _, rfl, ⟨hz.1.1, hz.1.2, hz.2, PyProof.Rows.rangeSize_toNat i j c⟩, g _ F1 H1 x1 walkD_rangeC⟩
    · cases e
  · cases e
@[simp] theorem qRng3_eq {r : List O → Option (List O)} {ρ : List O} : qRng3 r ρ = match r ρ with
    | some [.fz (.int i), .fz (.int j), .fz (.int c)] => if rgC i j c then some (rngC i c (Builtin.Range.rangeSize i j c).toNat) else none
    | _ => none := rfl
end FM
namespace FM
open PySem PySem.Spec L2 PyProof.Rows
/-! ### d[k] = v, and [..] * n as a list of one's own -/
def putD {κ : Type} [DecidableEq κ] {α : Type} (kvs : List (κ × α)) (k : κ) (v : α) : List (κ × α) :=
  if (kvs.any fun kv => decide (kv.1 = k)) then kvs.map (fun kv => if kv.1 = k then (kv.1, v) else kv) else kvs ++ [(k, v)]
theorem RepK.any {K : Frag} {F : Hp} (x : Key) : ∀ {vs : List (Key × V)} {ds : List (Key × PD)}, RepK K F vs ds → (vs.any fun kv => decide (kv.1 = x)) = (ds.any fun kv => decide (kv.1 = x))
  | _, _, .nil => rfl
  | _, _, .cons h r => by simp only [List.any_cons, RepK.any x r]
theorem RepK.len' {K : Frag} {F : Hp} : ∀ {vs : List (Key × V)} {ds : List (Key × PD)}, RepK K F vs ds → vs.length = ds.length
  | _, _, .nil => rfl
  | _, _, .cons h r => congrArg (· + 1) (RepK.len' r)
theorem RepK.maps {K : Frag} {F : Hp} {x : Key} {v : V} {d : PD} (h0 : Rep K F v d) : ∀ {vs : List (Key × V)} {ds : List (Key × PD)}, RepK K F vs ds → RepK K F (vs.map fun kv => if kv.1 = x then (kv.1, v) else kv) (ds.map fun kv => if kv.1 = x then (kv.1, d) else kv)
  | _, _, .nil => .nil
  | (k, w) :: _, (_, e) :: _, .cons h r => by
    have ih := RepK.maps (x := x) h0 r
    simp only [List.map_cons]
    by_cases c : k = x
    · rw [if_pos c, if_pos c]; exact .cons h0 ih
    · rw [if_neg c, if_neg c]; exact .cons h ih
theorem RepK.snoc {K : Frag} {F : Hp} {x : Key} {v : V} {d : PD} (h0 : Rep K F v d) : ∀ {vs : List (Key × V)} {ds : List (Key × PD)}, RepK K F vs ds → RepK K F (vs ++ [(x, v)]) (ds ++ [(x, d)])
  | _, _, .nil => .cons h0 .nil
  | _, _, .cons h r => .cons h (RepK.snoc h0 r)
theorem RepK.put {K : Frag} {F : Hp} {x : Key} {v : V} {d : PD} {vs : List (Key × V)} {ds : List (Key × PD)} (r : RepK K F vs ds) (h0 : Rep K F v d) : RepK K F (putK vs x v) (putD ds x d) := by
  unfold putK putD
  rw [r.any x]
  split
  · exact RepK.maps h0 r
  · exact RepK.snoc h0 r
section
variable {k : Kc} {E : XK}
theorem StW.dicAt {P : List (Nat × V)} {e : Ent} {σ : L2.St} {ρ : List O} {vs : List V} {os : List O} {F H : Hp} {S1 S2 : List Addr} {i : Nat} {ds : List (Key × PD)} (s : StW k P e σ ρ vs os F H S1 S2) (e0 : qVar i ρ = some (.dic ds)) :
    ∃ a ws, σ[i]? = some (some (.ref a)) ∧ H a = some (.dK ws) ∧ RepK k.K F ws ds ∧ ∀ ws' ds', RepK k.K F ws' ds' → ∃ U, StW k P e σ (ρ.set i (.dic ds')) vs os F (upd H a (.dK ws')) U S2 := by
  obtain ⟨env, tmp, fr, pin⟩ := s
  obtain ⟨g1, g2⟩ := qVar_some e0
  obtain ⟨v, T, R, a1, a2, a3, a4⟩ := env.take g1 g2
  cases a2 with
  | @dic a ws _ h r =>
    have frz : Fr e F H (a :: (R ++ S2)) := Sbp.fr fr (.of_count fun b => by
      have c2 := a4.count_eq b
      simp only [List.count_append, List.count_cons, List.count_nil] at c2 ⊢
      omega)
    have ha : H a = some (.dK ws) := by
      rcases h with h | ⟨ob, h⟩
      · exact h
      · exact (frz.nofz a List.mem_cons_self ob _ h).elim
    refine ⟨a, ws, a1, ha, r, fun ws' ds' r' => ?_⟩
    have nd := List.nodup_cons.mp frz.nd
    have keep : ∀ U : List Addr, (∀ b ∈ U, b ∈ R ++ S2) → At U H (upd H a (.dK ws')) := fun U m b mb u z => by
      rw [upd_ne (fun q => nd.1 (by rw [← q]; exact m b mb))]
      exact z
    have fw := frz.write (a := a) (o := .dK ws') List.mem_cons_self (fun _ _ z => by cases z)
    have env3 := a3.mono (Same.refl F) (keep R fun b m => List.mem_append_left _ m)
    have tmp3 := tmp.mono (Same.refl F) (keep S2 fun b m => List.mem_append_right _ m)
    obtain ⟨U, mU, q⟩ := env3.put (i := i) a1 (Own.dic (k := k) (F := F) (.inl upd_same) r')
    rw [List.set_set] at q
    exact ⟨U, q, tmp3, Sbp.fr fw (.of_count fun b => by
      have := mU.count b
      simp only [List.count_append, List.count_cons, List.count_nil] at this ⊢
      omega), pin⟩
def rSetU : TSet := fun o i v H Q => rSetL o i v H Q ∨ rSetD o i v H Q
theorem set_U {X : Cx} (hu : X.A.units + 1 < cLine) : PSet X rSetU := by
  intro pins s σ H o i v ov iv u Q I ro ri rv h
  rcases h with h | h
  · exact set_list pins s σ H o i v ov iv u Q I ro ri rv h
  · exact set_dict hu pins s σ H o i v ov iv u Q I ro ri rv h
def sSetU (s : Nat) (qi : QE) (m : M O) : MS := fun ρ => match m ρ with
  | .ok (.fz d) ρ1 => match qVar s ρ1 with
    | some (.lst ds) => match qi ρ1 with
      | some (.fz i) => match fSetI ds i d with
        | some ds' => .next (ρ1.set s (.lst ds'))
        | none => .bad
      | _ => .bad
    | some (.dic kvs) => match qi ρ1 with
      | some i => match keyO i with
        | some x => if kvs.length < sizeLine then .next (ρ1.set s (.dic (putD kvs x d))) else .bad
        | none => .bad
      | none => .bad
    | _ => .bad
  | .ok _ _ => .bad
  | .exc x ρ1 => .exc x ρ1
  | .bad => .bad
theorem tsm_setU {s : Nat} {te ti : TE} {m : M O} {qi : QE} (h : TEm k E te m) (hi : TEv k ti qi) : TSm k E [] (tAsg te (gSub (tVar s) ti rSetU)) (sSetU s qi m) := by
  intro P e σ ρ vs os H D o st g
  refine h P e σ ρ vs os H _ st ?_
  unfold sSetU at g
  cases e1 : m ρ with
  | exc x ρ1 => rw [e1] at g; exact g.exc
  | bad => rw [e1] at g; exact g
  | ok z ρ1 =>
    rw [e1] at g
    intro v H1 s1
    cases z with
    | fz d =>
      simp only at g
      obtain ⟨F, S1, S2, s1⟩ := s1
      split at g
      · rename_i ds e2
        split at g
        · rename_i i e3
          obtain ⟨a, ws, a1, a2, a3, a4⟩ := s1.lstAt e2
          refine ⟨.ref a, a1, hi F H1 σ ρ1 S1 _ _ s1.qs e3 fun w F2 H2 x2 w2 => ?_⟩
          have s2 := s1.xt x2
          obtain ⟨a', ws2, b1, b2, b3, b4⟩ := s2.lstAt e2
          rw [a1] at b1
          cases b1
          have rd := s2.top.1
          cases e4 : fSetI ds i d with
          | none => rw [e4] at g; exact g.elim
          | some ds' =>
            rw [e4] at g
            unfold fSetI at e4
            split at e4
            · rename_i j
              obtain ⟨n, e5, e6⟩ := Option.map_eq_some_iff.mp e4
              subst e6
              have ew := w2.int
              subst ew
              refine .inl ⟨a, ws2, j, n, rfl, rfl, b2, by rw [b3.length]; exact e5, ?_⟩
              obtain ⟨U, s5⟩ := b4 _ _ (b3.set rd n)
              obtain ⟨_, s6⟩ := s5.top
              exact g σ _ ⟨F2, U, S2, s6⟩
            · cases e4
        · exact g.elim
      · rename_i kvs e2
        split at g
        · rename_i i e3
          split at g
          · rename_i x e4
            split at g
            · rename_i hz
              obtain ⟨a, ws, a1, a2, a3, a4⟩ := s1.dicAt e2
              refine ⟨.ref a, a1, hi F H1 σ ρ1 S1 _ _ s1.qs e3 fun w F2 H2 x2 w2 => ?_⟩
              have s2 := s1.xt x2
              obtain ⟨a', ws2, b1, b2, b3, b4⟩ := s2.dicAt e2
              rw [a1] at b1
              cases b1
              have rd := s2.top.1
              have ew := w2.keyO e4
              subst ew
              refine .inr ⟨a, _, rfl, DPut.k b2 (by rw [b3.len']; exact hz), ?_⟩
              obtain ⟨U, s5⟩ := b4 _ _ (b3.put rd)
              obtain ⟨_, s6⟩ := s5.top
              exact g σ _ ⟨F2, U, S2, s6⟩
            · exact g.elim
          · exact g.elim
        · exact g.elim
      · exact g.elim
    | _ => exact g.elim
theorem Fresh.back {F F1 F2 H H1 H2 : Hp} {T : List Addr} (f : Fresh F2 H1 H2 T) (x : Xt F H F1 H1) : Fresh F2 H H2 T := ⟨f.nd, fun a m => none_back x.ex (f.new a m), f.off, f.nofz⟩
def OpN (k : Kc) (r : R2) (f : O → O → Option O) : Prop := ∀ (F H : Hp) (S : List Addr) (x y : V) (ox oy o : O) (Q : VK), FLe F H → (∀ a ∈ S, F a = none) → (∀ a ∈ S, H a ≠ none) → Vw k F H S x ox → Vw k F H S y oy → f ox oy = some o → (∀ v F' H' T, Xt F H F' H' → Own k F' H' v o T → Fresh F' H H' T → Q v H') → r x y H Q
theorem ten_op {ta tb : TE} {qa qb : QE} {r : R2} {f : O → O → Option O} (ha : TEv k ta qa) (hb : TEv k tb qb) (hr : OpN k r f) : TEn k (tOp r ta tb) (qOp f qa qb) := by
  intro F H σ ρ S o Q q e h
  unfold qOp at e
  split at e
  · cases e
  · rename_i x e1
    split at e
    · cases e
    · rename_i y e2
      refine ha F H σ ρ S x _ q e1 fun v F1 H1 x1 w1 => hb F1 H1 σ ρ S y _ (q.xt x1) e2 fun w F2 H2 x2 w2 => ?_
      have q2 := (q.xt x1).xt x2
      exact hr F2 H2 S v w x y o Q x2.fle q2.off q2.env.there (w1.xt x2) w2 e fun z F3 H3 T x3 w3 f3 => h z F3 H3 T ((x1.trans x2).trans x3) w3 (f3.back (x1.trans x2))
def repOk (n : Nat) (b : Int) : Prop := -(2 ^ 63) ≤ b ∧ b < 2 ^ 63 ∧ n * b.toNat ≤ sizeLine
open Classical in
noncomputable def oMulN (x y : O) : Option O := match y with
  | .fz (.int b) => match seqL x with
    | some a => if repOk a.length b then some (.lst (List.replicate b.toNat a).flatten) else none
    | none => none
  | _ => none
theorem on_mul : OpN k (rMulU k.K) oMulN := by
  intro F H S x y ox oy o Q f off th wx wy e h
  unfold oMulN at e
  split at e
  · split at e
    · rename_i a ea
      split at e
      · rename_i hz
        cases e
        obtain ⟨p, vs, rfl, hs, rs⟩ := wx.seqL f ea
        exact .inr ⟨p, _, vs, rfl, wy.int, hs, hz.1, hz.2.1, by rw [rs.length]; exact hz.2.2, own_list f (rs.rep _) h⟩
      · cases e
    · cases e
  · cases e
end
section
variable {ρ : List O} {nx bk ct : List O → Prop} {rt : O → List O → Prop} {m : M O} {qi : QE}
@[simp] theorem wS_setU {s : Nat} : wS (sSetU s qi m ρ) nx rt bk ct = wM (m ρ) fun o ρ1 => ∃ d, o = .fz d ∧ match qVar s ρ1 with
    | some (.lst ds) => ∃ i, qi ρ1 = some (.fz i) ∧ ∃ ds', fSetI ds i d = some ds' ∧ nx (ρ1.set s (.lst ds'))
    | some (.dic kvs) => ∃ i, qi ρ1 = some i ∧ ∃ x, keyO i = some x ∧ kvs.length < sizeLine ∧ nx (ρ1.set s (.dic (putD kvs x d)))
    | _ => False := by
  unfold sSetU
  cases e : m ρ with
  | ok o ρ1 =>
    cases o with
    | fz d =>
      simp only [wM_ok]
      cases e2 : qVar s ρ1 with
      | none => simp [wS, e2]
      | some z =>
        cases z with
        | lst ds =>
          cases e3 : qi ρ1 with
          | none => simp [wS, e2, e3]
          | some y =>
            cases y with
            | fz i => cases e4 : fSetI ds i d <;> simp [wS, e2, e3, e4]
            | _ => simp [wS, e2, e3]
        | dic kvs =>
          cases e3 : qi ρ1 with
          | none => simp [wS, e2, e3]
          | some y =>
            cases e4 : keyO y with
            | none => simp [wS, e2, e3, e4]
            | some x =>
              by_cases hz : kvs.length < sizeLine
              · simp [e2, e3, e4, hz]
                rfl
              · simp [wS, e2, e3, e4, hz]
        | _ => simp [wS, e2]
    | _ => simp [wS]
  | _ => rfl
@[simp] theorem keyO_i {i : Int} : keyO (.fz (.int i)) = some (.inl i) := rfl
@[simp] theorem keyO_s {x : Str} : keyO (.fz (.str x)) = some (.inr x) := rfl
theorem oMulN_i {ds : List PD} {b : Int} (h1 : -(2 ^ 63) ≤ b) (h2 : b < 2 ^ 63) (h3 : ds.length * b.toNat ≤ sizeLine) : oMulN (.fz (.list ds)) (.fz (.int b)) = some (.lst (List.replicate b.toNat ds).flatten) := by
  have c : repOk ds.length b := ⟨h1, h2, h3⟩
  unfold oMulN
  simp only [seqL]
  rw [if_pos c]
end
end FM
namespace FM
open PySem PySem.Spec L2 PyProof.Rows
open PySem.W (dataLe alike dataLt)
/-! ### orders, pairs, dicts of numbers, lists built item by item -/
theorem cut_take {α : Type} {xs : List α} {k : Nat} : cut xs none (some (k : Int)) = xs.take k := by
  unfold cut
  rw [HT.sIx_none, HT.sIx_nat]
  simp only [List.drop_zero, Nat.sub_zero]
  by_cases h : k ≤ xs.length
  · rw [Nat.min_eq_left h]
  · rw [Nat.min_eq_right (by omega), List.take_length, List.take_of_length_le (by omega)]
theorem enumGo_at {ds : List PD} {n i : Nat} {x : PD} (h : (enumGo n ds)[i]? = some x) : ∃ d, ds[i]? = some d ∧ x = pairD (.int ((n + i : Nat) : Int)) d := by
  obtain ⟨hi, rfl⟩ := List.getElem?_eq_some_iff.mp h
  obtain ⟨h1, h2⟩ := enum_at hi
  exact ⟨ds[i], List.getElem?_eq_getElem h1, h2⟩
@[simp] theorem qEnum_eq {r : List O → Option (List O)} {ρ : List O} : qEnum r ρ = match r ρ with
    | some [.fz (.list ds)] => some (enumGo 0 ds)
    | _ => none := rfl
theorem lk_cons {α : Type} {k x : Key} {v : α} {kvs : List (Key × α)} : lk ((k, v) :: kvs) x = if k = x then some v else lk kvs x := by
  unfold lk
  rw [List.find?_cons]
  by_cases h : k = x <;> simp [h]
theorem putD_new {α : Type} {kvs : List (Key × α)} {k : Key} {v : α} (h : ∀ p ∈ kvs, p.1 ≠ k) : putD kvs k v = kvs ++ [(k, v)] := by
  unfold putD
  rw [if_neg]
  intro c
  obtain ⟨p, m, e⟩ := List.any_eq_true.mp c
  exact h p m (by simpa using e)
theorem oIx_dict {kvs : List (Key × PD)} {i : Int} (hn : kvs ≠ []) : oIx (.fz (.dict (kvs.map kp))) (.fz (.int i)) = (lk kvs (.inl i)).map .fz := by
  have e : dicK (.fz (.dict (kvs.map kp))) = some kvs := by
    cases kvs with
    | nil => exact (hn rfl).elim
    | cons p r => exact unkp_kp (p :: r)
  have e2 : oLook (.fz (.dict (kvs.map kp))) (.fz (.int i)) = some (lk kvs (.inl i)) := by
    unfold oLook
    rw [e]
    rfl
  show (match oLook (.fz (.dict (kvs.map kp))) (.fz (.int i)) with | some (some d) => some (O.fz d) | _ => none) = _
  rw [e2]
  cases lk kvs (.inl i) <;> rfl
theorem prD_shaped {q : Nat × Nat} : SeqAt.shaped (prD q) = true := by simp [prD, SeqAt.shaped, PyData.canLay0, PyData.canLayAll0, PyData.depth, PyData.depthAll]
theorem eqv_prD {q r : Nat × Nat} : PyData.eqv (prD q) (prD r) = decide (q = r) := by
  obtain ⟨a, b⟩ := q
  obtain ⟨c, d⟩ := r
  simp only [prD, PyData.eqv, PyData.eqvAll, beq_dec]
  rw [Bool.eq_iff_iff]
  simp
  omega
theorem oIn_prs {m : Nat} {q : Nat × Nat} {ps : List (Nat × Nat)} (h : okP m ps) (hm : m ≤ 1000000) : oIn (.fz (prD q)) (.fz (.list (ps.map prD))) = some (.fz (.bool (decide (q ∈ ps)))) := by
  have e1 : SeqAt.shaped (PyData.list (ps.map prD)) = true := (prs_fine h hm).shaped (by decide)
  have e2 := prD_shaped (q := q)
  have e3 : ((ps.map prD).any fun z => PyData.eqv z (prD q)) = decide (q ∈ ps) := by
    rw [List.any_map, Bool.eq_iff_iff, List.any_eq_true]
    constructor
    · rintro ⟨r, mr, e⟩
      simp [eqv_prD] at e
      rw [← e]
      simpa using mr
    · intro mr
      exact ⟨q, by simpa using mr, by simp [eqv_prD]⟩
  have e4 : bIn (.fz (prD q)) (.fz (.list (ps.map prD))) = some (decide (q ∈ ps)) := by
    rw [← e3]
    show (if (SeqAt.shaped (prD q) && SeqAt.shaped (PyData.list (ps.map prD))) = true then _ else _) = _
    rw [e1, e2]
    rfl
  unfold oIn
  rw [e4]
  rfl
theorem oSum_map {α : Type} {g : α → Int} {xs : List α} : oSum [.fz (.list (xs.map fun x => .int (g x)))] = some (.fz (.int (xs.map g).sum)) := by
  have e : intsD (xs.map fun x => PyData.int (g x)) = some (xs.map g) := by
    have := intsD_map (xs.map g)
    rwa [List.map_map] at this
  rw [oSum_l, e]
theorem sum_perm {α : Type} {g : α → Int} {xs ys : List α} (p : xs.Perm ys) : (xs.map g).sum = (ys.map g).sum := by
  induction p with
  | nil => rfl
  | cons x _ ih => simp [ih]
  | swap x y l => simp; omega
  | trans _ _ h1 h2 => rw [h1, h2]
/-- whether two things are in a pair -/
def inP (ps : List (Nat × Nat)) (t u : Nat) : Bool := decide ((min t u, max t u) ∈ ps)
def matesK (ps : List (Nat × Nat)) : List Nat → List Nat → List (Key × PD)
  | _, [] => []
  | pre, t :: r => (.inl (t : Int), .list ((pre.filter (inP ps t)).map natD)) :: matesK ps (pre ++ [t]) r
theorem matesK_snoc {ps : List (Nat × Nat)} {t : Nat} : ∀ {pre l : List Nat}, matesK ps pre (l ++ [t]) = matesK ps pre l ++ [(.inl (t : Int), .list (((pre ++ l).filter (inP ps t)).map natD))]
  | pre, [] => by simp [matesK]
  | pre, u :: l => by
    show _ :: matesK ps (pre ++ [u]) (l ++ [t]) = _
    rw [matesK_snoc]
    simp [matesK]
theorem matesK_keys {ps : List (Nat × Nat)} : ∀ {pre l : List Nat} {p : Key × PD}, p ∈ matesK ps pre l → ∃ t ∈ l, p.1 = .inl (t : Int)
  | pre, t :: r, p, m => by
    rcases List.mem_cons.mp (show p ∈ _ :: _ from m) with rfl | m
    · exact ⟨t, List.mem_cons_self, rfl⟩
    · obtain ⟨u, mu, e⟩ := matesK_keys m
      exact ⟨u, List.mem_cons_of_mem _ mu, e⟩
theorem matesK_lk {ps : List (Nat × Nat)} {t : Nat} : ∀ {pre l post : List Nat}, t ∉ l → lk (matesK ps pre (l ++ t :: post)) (.inl (t : Int)) = some (.list (((pre ++ l).filter (inP ps t)).map natD))
  | pre, [], post, _ => by
    show lk (((Sum.inl (t : Int) : Key), _) :: _) _ = _
    rw [lk_cons, if_pos rfl, List.append_nil]
  | pre, u :: l, post, h => by
    have hu : u ≠ t := fun e => h (by rw [e]; exact List.mem_cons_self)
    have e : ¬ ((Sum.inl (u : Int) : Key) = Sum.inl (t : Int)) := fun e => hu (by
      have := Sum.inl.inj e
      omega)
    show lk (((Sum.inl (u : Int) : Key), _) :: matesK ps (pre ++ [u]) (l ++ t :: post)) _ = _
    rw [lk_cons, if_neg e, matesK_lk (fun m => h (List.mem_cons_of_mem _ m))]
    simp
theorem nodup_at {od : List Nat} {i t : Nat} (hn : od.Nodup) (e : od[i]? = some t) : t ∉ od.take i ∧ od = od.take i ++ t :: od.drop (i + 1) := by
  obtain ⟨hi, rfl⟩ := List.getElem?_eq_some_iff.mp e
  have e2 : od = od.take i ++ od[i] :: od.drop (i + 1) := by rw [← List.drop_eq_getElem_cons hi, List.take_append_drop]
  refine ⟨fun m => ?_, e2⟩
  rw [e2] at hn
  have h3 := (List.nodup_append.mp hn).2.2
  exact h3 _ m _ List.mem_cons_self rfl
/-- a list whose items are set one by one, by what is ahead -/
def buildG (f : List Int → List Nat → Nat → Int) : List Nat → List Nat → List Int → List Int
  | _, [], l => l
  | pre, t :: r, l => buildG f (pre ++ [t]) r (l.set t (f l pre t))
theorem buildG_len {f : List Int → List Nat → Nat → Int} : ∀ {r pre : List Nat} {l : List Int}, (buildG f pre r l).length = l.length
  | [], _, _ => rfl
  | t :: r, pre, l => by
    show (buildG f (pre ++ [t]) r (l.set t (f l pre t))).length = _
    rw [buildG_len, List.length_set]
theorem getD_set {l : List Int} {t u : Nat} {v : Int} (h : t < l.length) : (l.set t v).getD u 0 = if t = u then v else l.getD u 0 := by
  rw [List.getD_eq_getElem?_getD, List.getD_eq_getElem?_getD, List.getElem?_set]
  by_cases e : t = u
  · subst e
    simp [h]
  · simp [e]
theorem buildG_le {f g : List Int → List Nat → Nat → Int} {n : Nat} (hfg : ∀ l l' pre t, t < n → (∀ u ∈ pre, u < n) → f l pre t ≤ g l' pre t) : ∀ {r pre : List Nat} {l l' : List Int}, l.length = n → l'.length = n → (∀ t ∈ r, t < n) → (∀ u ∈ pre, u < n) → (∀ u, l.getD u 0 ≤ l'.getD u 0) → ∀ u, (buildG f pre r l).getD u 0 ≤ (buildG g pre r l').getD u 0
  | [], _, _, _, _, _, _, _, h => h
  | t :: r, pre, l, l', h1, h2, hr, hp, h => by
    have ht := hr t List.mem_cons_self
    refine buildG_le hfg (r := r) (by rw [List.length_set]; exact h1) (by rw [List.length_set]; exact h2) (fun u m => hr u (List.mem_cons_of_mem _ m)) (fun u m => ?_) (fun u => ?_)
    · rcases List.mem_append.mp m with m | m
      · exact hp u m
      · rw [List.mem_singleton.mp m]; exact ht
    · rw [getD_set (by omega), getD_set (by omega)]
      by_cases e : t = u
      · rw [if_pos e, if_pos e]
        exact hfg l l' pre t ht hp
      · rw [if_neg e, if_neg e]
        exact h u
/-! the least place -/
def encP (x : Int × (Int × Int)) : PD := .tuple [.int x.1, thD x.2]
def sortP (xs : List (Int × (Int × Int))) : List (Int × (Int × Int)) := xs.mergeSort (dataLe false encP)
theorem sortP_perm (xs : List (Int × (Int × Int))) : (sortP xs).Perm xs := List.mergeSort_perm _ _
theorem sortD_encP (xs : List (Int × (Int × Int))) : sortD (xs.map encP) = (sortP xs).map encP := (PySem.W.sort_maps (r := dataLe false encP) (s := dataLe false id) encP fun _ _ _ _ => rfl).symm
theorem sortC_encP (xs : List (Int × (Int × Int))) : sortC (xs.map encP) = true := by
  unfold sortC
  simp only [Bool.and_eq_true, Bool.or_eq_true, List.all_eq_true, List.mem_map, forall_exists_index, and_imp, forall_apply_eq_imp_iff₂, decide_eq_true_eq]
  refine ⟨⟨fun x _ y _ => ?_, .inl fun x _ => rfl⟩, fun x _ => ⟨?_, ?_⟩⟩
  · simp [encP, thD, alike, PySem.W.alikeAll]
  · simp [encP, thD, PyData.depth, PyData.depthAll]
  · simp [encP, thD, PyData.canLay0, PyData.canLayAll0]
theorem intsD_encP {x : Int × (Int × Int)} {xs : List (Int × (Int × Int))} : intsD ((x :: xs).map encP) = none := rfl
theorem oSortU_encP (xs : List (Int × (Int × Int))) : oSortU [.fz (.list (xs.map encP))] = some (.lst ((sortP xs).map encP)) := by
  cases xs with
  | nil => simp [oSortU, seqL, sortI, sortP]
  | cons x xs =>
    show (match intsD ((x :: xs).map encP) with | some ns => some (O.lst ((sortI ns).map .int)) | none => if sortC ((x :: xs).map encP) then some (.lst (sortD ((x :: xs).map encP))) else none) = _
    rw [intsD_encP]
    simp only [sortC_encP, sortD_encP, if_true]
def leastGo (s b : Int) : Int → List (Int × (Int × Int)) → Int
  | f, [] => f
  | f, x :: r => leastGo s b (if lieO f s x.1 x.2.1 then up (x.1 + x.2.1) b else f) r
def leastG (th : Int × Int) (xs : List (Int × (Int × Int))) : Int := leastGo th.1 th.2 0 (sortP xs)
theorem up_mono {n m b : Int} (hb : 0 < b) (h : n ≤ m) : up n b ≤ up m b := by
  unfold up
  exact Int.mul_le_mul_of_nonneg_right (Int.ediv_le_ediv hb (by omega)) (by omega)
theorem up_add {n f b : Int} (hb : 0 < b) (h : f % b = 0) : up (f + n) b = f + up n b := by
  obtain ⟨u1, u2⟩ := up_is (e := n) hb
  exact (up_uniq hb (by omega) (by omega) (by rw [Int.add_emod, h, up_mod]; rfl)).symm
theorem leastGo_le {s b : Int} (hs : 1 ≤ s) (hb : 1 ≤ b) : ∀ {ys : List (Int × (Int × Int))} {f : Int}, (∀ y ∈ ys, 1 ≤ y.2.1) → f % b = 0 → leastGo s b f ys ≤ f + (ys.map fun y => up (y.2.1 + s - 1) b).sum
  | [], f, _, _ => by simp [leastGo]
  | y :: ys, f, h, hf => by
    have hy := h y List.mem_cons_self
    have ht : ∀ z ∈ ys, 1 ≤ z.2.1 := fun z m => h z (List.mem_cons_of_mem _ m)
    obtain ⟨u1, u2⟩ := up_is (e := y.2.1 + s - 1) (b := b) (by omega)
    rw [List.map_cons, List.sum_cons]
    show leastGo s b (if lieO f s y.1 y.2.1 then up (y.1 + y.2.1) b else f) ys ≤ _
    by_cases c : lieO f s y.1 y.2.1 = true
    · rw [if_pos c]
      have ih := leastGo_le hs hb (f := up (y.1 + y.2.1) b) ht up_mod
      simp only [lieO, Bool.and_eq_true, decide_eq_true_eq] at c
      have h1 := up_mono (b := b) (n := y.1 + y.2.1) (m := f + (y.2.1 + s - 1)) (by omega) (by omega)
      rw [up_add (by omega) hf] at h1
      omega
    · rw [if_neg c]
      have ih := leastGo_le hs hb (f := f) ht hf
      omega
theorem leastG_le {th : Int × Int} {xs : List (Int × (Int × Int))} (hs : 1 ≤ th.1) (hb : 1 ≤ th.2) (h : ∀ y ∈ xs, 1 ≤ y.2.1) : leastG th xs ≤ (xs.map fun y => up (y.2.1 + th.1 - 1) th.2).sum := by
  have p := sortP_perm xs
  have := leastGo_le (s := th.1) (b := th.2) hs hb (ys := sortP xs) (f := 0) (fun y m => h y (p.mem_iff.mp m)) (by simp)
  rw [sum_perm p] at this
  unfold leastG
  omega
end FM
namespace FM
open PySem PySem.Spec L2 PyProof.Rows
theorem zeros_flat (n : Nat) : (List.replicate n [PyData.int 0]).flatten = (List.replicate n (0 : Int)).map .int := by
  induction n with
  | zero => rfl
  | succ n ih => simp [List.replicate_succ, ih]
theorem natD_filter {p : Nat → Bool} {q : PD → Bool} (h : ∀ u, q (natD u) = p u) (l : List Nat) : (l.map natD).filter q = (l.filter p).map natD := by
  rw [List.filter_map]
  congr 1
  apply List.filter_congr
  intro u _
  exact h u
def natP (p : Nat → Bool) : PD → Bool
  | .int i => p i.toNat
  | _ => false
theorem natP_natD {p : Nat → Bool} (u : Nat) : natP p (natD u) = p u := by simp [natP, natD]
theorem take_succ_at {od : List Nat} {i t : Nat} (e : od[i]? = some t) : od.take (i + 1) = od.take i ++ [t] := by
  obtain ⟨hi, rfl⟩ := List.getElem?_eq_some_iff.mp e
  rw [List.take_add_one, List.getElem?_eq_getElem hi]
  rfl
theorem erase_perm : ∀ {xs : List Int} {i : Nat} {y : Int}, xs[i]? = some y → xs.Perm (y :: xs.eraseIdx i)
  | x :: xs, 0, y, e => by
    simp at e
    subst e
    exact .refl _
  | x :: xs, i + 1, y, e => by
    have ih := erase_perm (xs := xs) (i := i) (y := y) (by simpa using e)
    exact (List.Perm.cons x ih).trans (List.Perm.swap y x _)
  | [], _, _, e => by simp at e
theorem fSetI_n {ds : List Int} {t : Nat} {v : Int} (h : t < ds.length) : fSetI (ds.map .int) (.int (t : Int)) (.int v) = some ((ds.set t v).map .int) := by
  have e : ixN (ds.map PyData.int).length (t : Int) = some t := by
    unfold ixN
    rw [if_pos (by omega), if_pos (by simp; omega)]
    simp
  rw [fSetI_i, e, Option.map_some, List.map_set]
theorem mul_sum {α : Type} {g : α → Int} {b : Int} (xs : List α) : b * (xs.map g).sum = (xs.map fun x => g x * b).sum := by
  induction xs with
  | nil => simp
  | cons x xs ih => simp [Int.mul_add, ih, Int.mul_comm]
/-- a whole order, of things that are there -/
def okO (m : Nat) (od : List Nat) : Prop := od.Nodup ∧ ∀ t ∈ od, t < m
theorem nats_of {xs : List Int} {m : Nat} (h : xs.Perm (rngI m)) : ∃ od : List Nat, xs = od.map (fun t : Nat => (t : Int)) ∧ okO m od ∧ od.length = m := by
  have e : xs = (xs.map Int.toNat).map (fun t : Nat => (t : Int)) := by
    rw [List.map_map]
    have : ∀ x ∈ xs, ((fun t : Nat => (t : Int)) ∘ Int.toNat) x = x := fun x m => by
      have := rngI_mem (h.mem_iff.mp m)
      simp
      omega
    conv => lhs; rw [← List.map_id xs]
    apply List.map_congr_left
    intro x m
    exact (this x m).symm
  have p2 : (xs.map Int.toNat).Perm (List.range m) := by
    have := h.map Int.toNat
    unfold rngI at this
    rw [List.map_map] at this
    have e2 : (List.range m).map (Int.toNat ∘ fun i : Nat => (i : Int)) = List.range m := by
      conv => rhs; rw [← List.map_id (List.range m)]
      apply List.map_congr_left
      intro i _
      simp
    rwa [e2] at this
  refine ⟨xs.map Int.toNat, e, ⟨p2.nodup_iff.mpr List.nodup_range, fun t mt => List.mem_range.mp (p2.mem_iff.mp mt)⟩, ?_⟩
  rw [p2.length_eq, List.length_range]
theorem qLrg1_n {a : QE} {ρ : List O} {n : Nat} (hn : n ≤ 1000000) (h : a ρ = some (.fz (.int (n : Int)))) : qLrg1 a ρ = some (.lst ((rngI n).map .int)) := by
  have hb : big62 (n : Int) = true := big62_s (by omega) (by omega)
  have hd : decide ((n : Int).toNat ≤ 2 ^ 24) = true := decide_eq_true (by omega)
  unfold qLrg1
  rw [h]
  simp only [hb, hd, Bool.and_self, if_true]
  rw [Int.toNat_natCast, rngD_map]
end FM
namespace FM
open PySem PySem.Spec L2 PyProof.Rows
/-! ### comprehensions over a dict of one's own (locked meanwhile) -/
section
variable {H : Hp} {d : Addr} {ws : List (Key × V)} {od : Obj}
theorem rd_lock (hd : H d = some (.dK ws)) {a : Addr} {u : HO} (h : Rd H a u) : Rd (upd H d (.frz od (.dK ws))) a u := by
  by_cases e : a = d
  · subst e
    rcases h with h | ⟨o, h⟩
    · rw [hd] at h
      cases h
      exact .inr ⟨od, upd_same⟩
    · rw [hd] at h
      cases h
  · rcases h with h | ⟨o, h⟩
    · exact .inl (by rw [upd_ne e]; exact h)
    · exact .inr ⟨o, by rw [upd_ne e]; exact h⟩
mutual
theorem Own.lock {k : Kc} {F : Hp} (hd : H d = some (.dK ws)) : ∀ {v : V} {o : O} {S : List Addr}, Own k F H v o S → Own k F (upd H d (.frz od (.dK ws))) v o S
  | _, _, _, .fz h => .fz h
  | _, _, _, .lst h r => .lst (rd_lock hd h) r
  | _, _, _, .dic h r => .dic (rd_lock hd h) r
  | _, _, _, .dit h r => .dit (rd_lock hd h) r
  | _, _, _, .nst h r => .nst (rd_lock hd h) (Owns.lock hd r)
  | _, _, _, .ntp (a := a) h r => .ntp (by rw [upd_ne (fun e => by rw [e, hd] at h; cases h)]; exact h) (Owns.lock hd r)
  | _, _, _, .ndc h r => .ndc (rd_lock hd h) (OwnK.lock hd r)
  | _, _, _, .ins h r => .ins (rd_lock hd h) (OwnF.lock hd r)
  | _, _, _, .ktp h r => .ktp h r
  | _, _, _, .dead => .dead
theorem Owns.lock {k : Kc} {F : Hp} (hd : H d = some (.dK ws)) : ∀ {v : List V} {o : List O} {S : List Addr}, Owns k F H v o S → Owns k F (upd H d (.frz od (.dK ws))) v o S
  | _, _, _, .nil => .nil
  | _, _, _, .cons h r => .cons (Own.lock hd h) (Owns.lock hd r)
theorem OwnK.lock {k : Kc} {F : Hp} (hd : H d = some (.dK ws)) : ∀ {v : List (Key × V)} {o : List (Key × O)} {S : List Addr}, OwnK k F H v o S → OwnK k F (upd H d (.frz od (.dK ws))) v o S
  | _, _, _, .nil => .nil
  | _, _, _, .cons h r => .cons (Own.lock hd h) (OwnK.lock hd r)
theorem OwnF.lock {k : Kc} {F : Hp} (hd : H d = some (.dK ws)) : ∀ {v : List (Str × V)} {o : List (Str × O)} {S : List Addr}, OwnF k F H v o S → OwnF k F (upd H d (.frz od (.dK ws))) v o S
  | _, _, _, .nil => .nil
  | _, _, _, .cons h r => .cons (Own.lock hd h) (OwnF.lock hd r)
end
theorem Envs.lock {k : Kc} {F : Hp} (hd : H d = some (.dK ws)) : ∀ {σ : L2.St} {ρ : List O} {S : List Addr}, Envs k F H σ ρ S → Envs k F (upd H d (.frz od (.dK ws))) σ ρ S
  | _, _, _, .nil => .nil
  | _, _, _, .dead r => .dead (Envs.lock hd r)
  | _, _, _, .cons w r => .cons (w.lock hd) (Envs.lock hd r)
end
def keysD (ds : List (Key × PD)) : List PD := ds.map fun p => keyD p.1
def qKeysD (i : Nat) : QI := fun ρ => match qVar i ρ with
  | some (.dic ds) => some (keysD ds)
  | _ => none
theorem RepK.key {K : Frag} {F : Hp} {k : Key} {v : V} : ∀ {vs : List (Key × V)} {ds : List (Key × PD)} {i : Nat}, RepK K F vs ds → vs[i]? = some (k, v) → (keysD ds)[i]? = some (keyD k)
  | (_, _) :: _, (_, _) :: _, 0, .cons h r, e => by
    simp at e
    obtain ⟨rfl, rfl⟩ := e
    rfl
  | _, _, i + 1, .cons h r, e => by
    have := RepK.key (i := i) r (by simpa using e)
    simpa [keysD] using this
theorem rep_key {K : Frag} {F : Hp} : ∀ k : Key, Rep K F (kV k) (keyD k)
  | .inl i => .int i
  | .inr x => .str x
section
variable {k : Kc} {E : XK} {i : Nat}
def wiL (i : Nat) : TI := fun σ H R => (∃ (d : Addr) (o : Obj) (ws : List (Key × V)), σ[i]? = some (some (.ref d)) ∧ H d = some (.frz o (.dK ws))) → iKeys (tVar i) σ H R
theorem tiv_keysL : TIv k (wiL i) (qKeysD i) := by
  rintro F H σ ρ S xs R q e g ⟨d, o, ws, a1, a2⟩
  unfold qKeysD at e
  split at e
  · rename_i ds e0
    cases e
    obtain ⟨g1, g2⟩ := qVar_some e0
    obtain ⟨v, T, U, b1, b2, b3, b4⟩ := q.env.take g1 g2
    rw [a1] at b1
    cases b1
    cases b2 with
    | @dic a ws' _ h r =>
      have ew : ws' = ws := by
        rcases h with h | ⟨o', h⟩
        · rw [a2] at h
          cases h
        · rw [a2] at h
          cases h
          rfl
      subst ew
      have hl : (keysD ds).length = ws'.length := by rw [r.len', keysD, List.length_map]
      refine ⟨_, a1, d, o, rfl, .inl ⟨ws', a2, g _ F H (Xt.refl q.fle) ⟨fun j F2 H2 hj p f => ?_, fun F2 H2 p f => ?_, fun j F2 H2 x H3 hj p f y => ?_⟩⟩⟩
      · exact walk_keys.goes j H2 (by omega) (p.ex d _ a2)
      · rw [hl]
        exact walk_keys.stops H2 (p.ex d _ a2)
      · obtain ⟨rfl, kk, vv, e1, rfl⟩ := walk_keys.yields j H2 x H3 (by omega) (p.ex d _ a2) y
        have e2 := r.key e1
        rw [List.getElem?_eq_getElem hj] at e2
        rw [Option.some.inj e2]
        exact ⟨F2, Xt.refl f, rep_key kk⟩
  · cases e
theorem tem_lck {g : TG} {tt : TT} {te : TE} {vs : List Nat} {f : QG} {c : List O → Option Bool} {qe : QE} {J : List Nat} (hg : TGq k g f J) (hJ : ∀ j ∈ J, j ∈ vs) (ht : TTv k tt c) (he : TEv k te qe) :
    TEm k E (tLockE (tLc (iKeys (tVar i)) g tt te vs)) (mNew (qLc (qKeysD i) f c qe vs)) := by
  intro P e σ ρ us os H Q s r
  obtain ⟨F, S1, S2, s⟩ := s
  unfold mNew at r
  cases e1 : qLc (qKeysD i) f c qe vs ρ with
  | none => rw [e1] at r; exact r.elim
  | some o =>
    rw [e1] at r
    have e0 : ∃ ds, qVar i ρ = some (.dic ds) := by
      unfold qLc qKeysD at e1
      cases z : qVar i ρ with
      | none => rw [z] at e1; cases e1
      | some w =>
        cases w with
        | dic ds => exact ⟨ds, rfl⟩
        | _ => rw [z] at e1; cases e1
    obtain ⟨ds, e0⟩ := e0
    obtain ⟨g1, g2⟩ := qVar_some e0
    obtain ⟨v, T, U, b1, b2, b3, b4⟩ := s.env.take g1 g2
    cases b2 with
    | @dic d ws _ h rr =>
      have md : d ∈ S1 := b4.mem_iff.mp (by simp)
      have md2 : d ∈ S1 ++ S2 := List.mem_append_left _ md
      have hd : H d = some (.dK ws) := by
        rcases h with h | ⟨o', h⟩
        · exact h
        · exact (s.fr.nofz d md2 o' _ h).elim
      have hF : F d = none := s.fr.off d md2
      refine ⟨d, .dK ws, hd, trivial, fun od => ?_⟩
      have qs : Qs k F (upd H d (.frz od (.dK ws))) σ ρ S1 := by
        refine ⟨fun a u z => ?_, s.env.lock hd, s.qs.off⟩
        have ne : a ≠ d := fun w => by rw [w, hF] at z; cases z
        rw [upd_ne ne]
        exact s.fr.fle a u z
      have back : ∀ {a : Addr}, (upd H d (.frz od (.dK ws))) a = none → a ≠ d ∧ H a = none := fun {a} z => by
        have ne : a ≠ d := fun w => by rw [w, upd_same] at z; cases z
        rw [upd_ne ne] at z
        exact ⟨ne, z⟩
      have t := ten_lc (wi := wiL i) tiv_keysL hg hJ ht he F (upd H d (.frz od (.dK ws))) σ ρ S1 o (fun v H2 => H2 d = some (.frz od (.dK ws)) ∧ Q v (upd H2 d (.dK ws))) qs e1 fun v F2 H2 T2 x w fr => by
        refine ⟨x.ex d _ upd_same, ?_⟩
        have neT : ∀ a ∈ T2, a ≠ d := fun a m => (back (fr.new a m)).1
        have x2 : Xt F H F2 (upd H2 d (.dK ws)) := by
          refine ⟨fun a u z => ?_, x.sub, fun a u z => ?_, fun a u z => ?_⟩
          · by_cases ne : a = d
            · subst ne
              rw [hd] at z
              rw [upd_same]
              exact z
            · rw [upd_ne ne]
              exact x.ex a u (by rw [upd_ne ne]; exact z)
          · have ne : a ≠ d := fun w => by
              subst w
              rcases x.fresh a u z with z2 | z2
              · rw [hF] at z2; cases z2
              · rw [upd_same] at z2; cases z2
            rw [upd_ne ne]
            exact x.fle a u z
          · rcases x.fresh a u z with z2 | z2
            · exact .inl z2
            · exact .inr (back z2).2
        have w2 : Own k F2 (upd H2 d (.dK ws)) v o T2 := Own.mono (Same.refl F2) (fun a m u z => by rw [upd_ne (neT a m)]; exact z) w
        have f2 : Fresh F2 H (upd H2 d (.dK ws)) T2 := ⟨fr.nd, fun a m => (back (fr.new a m)).2, fr.off, fun a m o' u' z => by
          rw [upd_ne (neT a m)] at z
          exact fr.nofz a m o' u' z⟩
        exact r v _ ⟨F2, S1, T2 ++ S2, s.push x2 w2 f2⟩
      exact t ⟨d, od, ws, b1, upd_same⟩
@[simp] theorem qKeysD_eq {ρ : List O} : qKeysD i ρ = match qVar i ρ with
    | some (.dic ds) => some (keysD ds)
    | _ => none := rfl
end
theorem pe_lcK {X : Cx} {elt tg iter : Expr} {ifs : List Expr} {scope : Scope} {own : List (Str × Nat)} {pos : Pos} {wi : TI} {g : TG} {tt : TT} {te : TE} (hc : X.calm = true) (hN : X.N.Nodup) (hi : PI X tg iter wi) (ok : BlkOk X.N X.env.scope scope own)
    (hg : ∀ (s : Shared) (H : Hp) (C : Addr) (cl : List (Str × Addr)) (fp : List Addr), PG (X.blk s H scope (compEnvC scope cl C X.env) fp) tg g)
    (ht : ∀ (s : Shared) (H : Hp) (C : Addr) (cl : List (Str × Addr)) (fp : List Addr), PTs (X.blk s H scope (compEnvC scope cl C X.env) fp) ifs tt)
    (he : ∀ (s : Shared) (H : Hp) (C : Addr) (cl : List (Str × Addr)) (fp : List Addr), PE (X.blk s H scope (compEnvC scope cl C X.env) fp) elt te) (hs : ∀ x, foldedSetIterable iter X.env x = pure x := by intro _; rfl) :
    PE X (.ListComp elt [⟨tg, iter, ifs, 0⟩] scope pos) (tLockE (tLc wi g tt te (own.map (·.2)))) := pe_lock (pe_lc hc hN hi ok hg ht he hs)
theorem ps_setLcK {X : Cx} {i : Nat} {y : Str} {py : Pos} {elt tg iter : Expr} {ifs : List Expr} {scope : Scope} {own : List (Str × Nat)} {pos spos : Pos} {wi : TI} {g : TG} {tt : TT} {te : TE} (hc : X.calm = true) (hN : X.N.Nodup) (hy : X.N[i]? = some y) (hyl : X.env.scope.names.lookup y = some .local)
    (hsw : swapsWith (.ListComp elt [⟨tg, iter, ifs, 0⟩] scope pos) (some (.Name y py)) spos.line X.env = pure true) (hi : PI X tg iter wi) (ok : BlkOk X.N X.env.scope scope own)
    (hg : ∀ (s : Shared) (H : Hp) (C : Addr) (cl : List (Str × Addr)) (fp : List Addr), PG (X.blk s H scope (compEnvC scope cl C X.env) fp) tg g)
    (ht : ∀ (s : Shared) (H : Hp) (C : Addr) (cl : List (Str × Addr)) (fp : List Addr), PTs (X.blk s H scope (compEnvC scope cl C X.env) fp) ifs tt)
    (he : ∀ (s : Shared) (H : Hp) (C : Addr) (cl : List (Str × Addr)) (fp : List Addr), PE (X.blk s H scope (compEnvC scope cl C X.env) fp) elt te) (hs : ∀ x, foldedSetIterable iter X.env x = pure x := by intro _; rfl) :
    PS X (.Assign [.Name y py] (.ListComp elt [⟨tg, iter, ifs, 0⟩] scope pos) spos) (tAsg (tLockE (tLc wi g tt te (own.map (·.2)))) (gName i)) :=
  ⟨fun pins s σ H D I h => (ps_lock (ps_setLc hc hN hy hyl hsw hi ok hg ht he hs)).run pins s σ H D I h⟩
end FM
namespace FM
open PySem PySem.Spec L2 PyProof.Rows
open PySem.W (dataLe alike dataLt)
/-! ### the least place is the least free one -/
/-- free of all of them -/
def freeG (s p : Int) (xs : List (Int × (Int × Int))) : Prop := ∀ x ∈ xs, lieO p s x.1 x.2.1 = false
theorem lieO_false {p s q t : Int} : lieO p s q t = false ↔ (q + t ≤ p ∨ p + s ≤ q) := by
  unfold lieO
  rw [Bool.and_eq_false_iff, decide_eq_false_iff_not, decide_eq_false_iff_not]
  omega
theorem lieO_true {p s q t : Int} : lieO p s q t = true ↔ (p < q + t ∧ q < p + s) := by
  unfold lieO
  rw [Bool.and_eq_true, decide_eq_true_eq, decide_eq_true_eq]
/-- what the going on by order of places comes to -/
theorem leastGo_is {s b : Int} (hs : 1 ≤ s) (hb : 1 ≤ b) : ∀ {ys done : List (Int × (Int × Int))} {f : Int}, (∀ y ∈ ys, 1 ≤ y.2.1) → (ys.Pairwise fun x y => x.1 ≤ y.1) → (∀ x ∈ done, ∀ y ∈ ys, x.1 ≤ y.1) → f % b = 0 → 0 ≤ f → freeG s f done → (∀ q, 0 ≤ q → q % b = 0 → q < f → ¬ freeG s q done) → (f = 0 ∨ ∃ x ∈ done, f = up (x.1 + x.2.1) b) →
    leastGo s b f ys % b = 0 ∧ 0 ≤ leastGo s b f ys ∧ freeG s (leastGo s b f ys) (done ++ ys) ∧ (∀ q, 0 ≤ q → q % b = 0 → q < leastGo s b f ys → ¬ freeG s q (done ++ ys)) ∧ (leastGo s b f ys = 0 ∨ ∃ x ∈ done ++ ys, leastGo s b f ys = up (x.1 + x.2.1) b)
  | [], done, f, _, _, _, h1, h2, h3, h4, h5 => by
    rw [List.append_nil]
    exact ⟨h1, h2, h3, h4, h5⟩
  | y :: ys, done, f, hp, hw, hd, h1, h2, h3, h4, h5 => by
    obtain ⟨w1, w2⟩ := List.pairwise_cons.mp hw
    have e : done ++ y :: ys = (done ++ [y]) ++ ys := by simp
    have hd2 : ∀ x ∈ done ++ [y], ∀ z ∈ ys, x.1 ≤ z.1 := fun x mx z mz => by
      rcases List.mem_append.mp mx with mx | mx
      · exact hd x mx z (List.mem_cons_of_mem _ mz)
      · rw [List.mem_singleton.mp mx]
        exact w1 z mz
    have hp2 : ∀ z ∈ ys, 1 ≤ z.2.1 := fun z m => hp z (List.mem_cons_of_mem _ m)
    have hy := hp y List.mem_cons_self
    obtain ⟨u1, u2⟩ := up_is (e := y.1 + y.2.1) (b := b) (by omega)
    have sub : ∀ q, freeG s q (done ++ [y]) → freeG s q done := fun q h x m => h x (List.mem_append_left _ m)
    rw [e]
    show leastGo s b (if lieO f s y.1 y.2.1 then up (y.1 + y.2.1) b else f) ys % b = 0 ∧ _
    by_cases c : lieO f s y.1 y.2.1 = true
    · obtain ⟨c1, c2⟩ := lieO_true.mp c
      have eq : leastGo s b f (y :: ys) = leastGo s b (up (y.1 + y.2.1) b) ys := by simp [leastGo, c]
      rw [if_pos c, eq]
      refine leastGo_is hs hb hp2 w2 hd2 up_mod (by omega) (fun x mx => ?_) (fun q q1 q2 q3 q4 => ?_) (.inr ⟨y, by simp, rfl⟩)
      · rcases List.mem_append.mp mx with mx | mx
        · have g := lieO_false.mp (h3 x mx)
          have g2 := hd x mx y List.mem_cons_self
          exact lieO_false.mpr (by omega)
        · rw [List.mem_singleton.mp mx]
          exact lieO_false.mpr (.inl u1)
      · rcases Int.lt_or_le q f with z | z
        · exact h4 q q1 q2 z (sub q q4)
        · have g := lieO_false.mp (q4 y (by simp))
          rcases g with g | g
          · have := up_uniq (n := y.1 + y.2.1) (b := b) (p := q) (by omega) g (by omega) q2
            omega
          · omega
    · have c' : lieO f s y.1 y.2.1 = false := by simpa using c
      have eq : leastGo s b f (y :: ys) = leastGo s b f ys := by simp [leastGo, c']
      rw [if_neg c, eq]
      refine leastGo_is hs hb hp2 w2 hd2 h1 h2 (fun x mx => ?_) (fun q q1 q2 q3 q4 => h4 q q1 q2 q3 (sub q q4)) ?_
      · rcases List.mem_append.mp mx with mx | mx
        · exact h3 x mx
        · rw [List.mem_singleton.mp mx]
          exact c'
      · rcases h5 with h5 | ⟨x, mx, h5⟩
        · exact .inl h5
        · exact .inr ⟨x, List.mem_append_left _ mx, h5⟩
theorem le_encP {x y : Int × (Int × Int)} (h : dataLe false encP x y = true) : x.1 ≤ y.1 := by
  rcases Int.lt_or_le y.1 x.1 with z | z
  · have e : dataLt (encP y) (encP x) = true := by
      unfold encP
      rw [PySem.W.dataLt_pair (by simp [alike]) (by simp [thD, alike, PySem.W.alikeAll])]
      have n : PyData.eqv (.int y.1) (.int x.1) = false := by simp [PyData.eqv]; omega
      rw [n]
      simp only [Bool.false_eq_true, if_false]
      rw [PySem.W.dataLt_int]
      exact decide_eq_true z
    rw [PySem.W.dataLe_eq] at h
    simp [e] at h
  · exact z
theorem sortP_sorted (xs : List (Int × (Int × Int))) : (sortP xs).Pairwise fun x y => x.1 ≤ y.1 := by
  have := PySem.W.sort_pairwise (le := dataLe false encP) (PySem.W.sortLe_total (PyProof.Rows.listOrd PyProof.Rows.itemOrd) false fun b => PySem.W.keyToks (encP b)) xs
  exact this.imp fun h => le_encP h
theorem leastG_is {th : Int × Int} {xs : List (Int × (Int × Int))} (hs : 1 ≤ th.1) (hb : 1 ≤ th.2) (h : ∀ y ∈ xs, 1 ≤ y.2.1) :
    leastG th xs % th.2 = 0 ∧ 0 ≤ leastG th xs ∧ freeG th.1 (leastG th xs) xs ∧ (∀ q, 0 ≤ q → q % th.2 = 0 → q < leastG th xs → ¬ freeG th.1 q xs) ∧ (leastG th xs = 0 ∨ ∃ x ∈ xs, leastG th xs = up (x.1 + x.2.1) th.2) := by
  have p := sortP_perm xs
  have fr : ∀ {q : Int}, freeG th.1 q (sortP xs) ↔ freeG th.1 q xs := fun {q} => ⟨fun f x m => f x (p.mem_iff.mpr m), fun f x m => f x (p.mem_iff.mp m)⟩
  obtain ⟨r1, r2, r3, r4, r5⟩ := leastGo_is (s := th.1) (b := th.2) hs hb (ys := sortP xs) (done := []) (f := 0) (fun y m => h y (p.mem_iff.mp m)) (sortP_sorted xs) (fun x m => by cases m) (by simp) (Int.le_refl _) (fun x m => by cases m) (fun q q1 _ q3 => by omega) (.inl rfl)
  rw [List.nil_append] at r3 r4 r5
  refine ⟨r1, r2, fr.mp r3, fun q q1 q2 q3 q4 => r4 q q1 q2 q3 (fr.mpr q4), ?_⟩
  rcases r5 with r5 | ⟨x, mx, r5⟩
  · exact .inl r5
  · exact .inr ⟨x, p.mem_iff.mp mx, r5⟩
/-- of numbers that rise, the first one that is so -/
theorem find_least {P : Int → Bool} {v : Int} : ∀ {cs : List Int}, cs.Pairwise (· ≤ ·) → v ∈ cs → P v = true → (∀ c ∈ cs, P c = true → v ≤ c) → cs.find? P = some v
  | c :: cs, hw, m, hv, hm => by
    obtain ⟨w1, w2⟩ := List.pairwise_cons.mp hw
    rw [List.find?_cons]
    cases e : P c with
    | true =>
      have g := hm c List.mem_cons_self e
      rcases List.mem_cons.mp m with z | z
      · simp [z]
      · have := w1 v z
        have : c = v := by omega
        simp [this]
    | false =>
      simp only
      rcases List.mem_cons.mp m with z | z
      · rw [z, e] at hv
        cases hv
      · exact find_least w2 z hv fun d md hd => hm d (List.mem_cons_of_mem _ md) hd
  | [], _, m, _, _ => by cases m
end FM
namespace FM
open PySem PySem.Spec L2 PyProof.Rows
theorem nats_of2 {xs : List Int} {m : Nat} (h : xs.Perm (rngI m)) : ∃ od : List Nat, xs = od.map (fun t : Nat => (t : Int)) ∧ okO m od ∧ od.length = m ∧ ∀ t, t < m → t ∈ od := by
  obtain ⟨od, e, h1, h2⟩ := nats_of h
  refine ⟨od, e, h1, h2, fun t ht => ?_⟩
  subst e
  have : (t : Int) ∈ rngI m := by
    unfold rngI
    exact List.mem_map.mpr ⟨t, List.mem_range.mpr ht, rfl⟩
  have := h.mem_iff.mpr this
  obtain ⟨u, mu, e⟩ := List.mem_map.mp this
  have : u = t := by omega
  rw [← this]
  exact mu
theorem buildG_fix {f : List Int → List Nat → Nat → Int} (hf : ∀ l l' pre t, (∀ u ∈ pre, l.getD u 0 = l'.getD u 0) → f l pre t = f l' pre t) : ∀ {r pre : List Nat} {l : List Int}, (pre ++ r).Nodup → (∀ t ∈ r, t < l.length) →
    (∀ u ∈ pre, (buildG f pre r l).getD u 0 = l.getD u 0) ∧ ∀ j t, r[j]? = some t → (buildG f pre r l).getD t 0 = f (buildG f pre r l) (pre ++ r.take j) t
  | [], _, _, _, _ => ⟨fun _ _ => rfl, fun j t e => by simp at e⟩
  | t :: r, pre, l, hn, hl => by
    have ht := hl t List.mem_cons_self
    have hn2 : ((pre ++ [t]) ++ r).Nodup := by rw [List.append_assoc]; exact hn
    have nt : t ∉ pre := fun m => (List.nodup_append.mp hn).2.2 t m t List.mem_cons_self rfl
    obtain ⟨i1, i2⟩ := buildG_fix hf (r := r) (pre := pre ++ [t]) (l := l.set t (f l pre t)) hn2 fun u m => by rw [List.length_set]; exact hl u (List.mem_cons_of_mem _ m)
    have e0 : buildG f pre (t :: r) l = buildG f (pre ++ [t]) r (l.set t (f l pre t)) := rfl
    have k1 : ∀ u ∈ pre, (buildG f pre (t :: r) l).getD u 0 = l.getD u 0 := fun u m => by
      rw [e0, i1 u (List.mem_append_left _ m), getD_set ht, if_neg (fun e => nt (by rw [e]; exact m))]
    refine ⟨k1, fun j v e => ?_⟩
    cases j with
    | zero =>
      simp at e
      subst e
      rw [List.take_zero, List.append_nil]
      have h1 := i1 t (by simp)
      rw [getD_set ht, if_pos rfl] at h1
      rw [e0, h1]
      exact hf _ _ _ _ fun u m => by rw [← e0, k1 u m]
    | succ j =>
      have := i2 j v (by simpa using e)
      rw [e0, this]
      simp
theorem oIx_dic {kvs : List (Key × PD)} {i : Int} : oIx (.dic kvs) (.fz (.int i)) = (lk kvs (.inl i)).map .fz := by
  have e2 : oLook (.dic kvs) (.fz (.int i)) = some (lk kvs (.inl i)) := rfl
  show (match oLook (.dic kvs) (.fz (.int i)) with | some (some d) => some (O.fz d) | _ => none) = _
  rw [e2]
  cases lk kvs (.inl i) <;> rfl
def kvI (l : List Int) (od : List Nat) : List (Key × PD) := od.map fun t : Nat => ((Sum.inl (t : Int) : Key), PyData.int (l.getD t 0))
theorem kvI_lk {l : List Int} {t : Nat} : ∀ {od : List Nat}, t ∈ od → lk (kvI l od) (.inl (t : Int)) = some (.int (l.getD t 0))
  | u :: od, m => by
    show lk (((Sum.inl (u : Int) : Key), PyData.int (l.getD u 0)) :: kvI l od) _ = _
    rw [lk_cons]
    by_cases e : u = t
    · rw [if_pos (by rw [e]), e]
    · rw [if_neg (fun z => e (by have := Sum.inl.inj z; omega))]
      rcases List.mem_cons.mp m with z | z
      · exact (e z.symm).elim
      · exact kvI_lk z
theorem kvI_put {l : List Int} {t : Nat} {v : Int} {od : List Nat} (h : t ∉ od) (ht : t < l.length) : putD (kvI l od) (.inl (t : Int)) (.int v) = kvI (l.set t v) (od ++ [t]) := by
  rw [putD_new fun p m e => by
    obtain ⟨u, mu, rfl⟩ := List.mem_map.mp m
    have := Sum.inl.inj e
    exact h (by have : u = t := by omega
                rw [← this]; exact mu)]
  unfold kvI
  rw [List.map_append]
  congr 1
  · apply List.map_congr_left
    intro u mu
    rw [getD_set ht, if_neg (fun e => h (by rw [e]; exact mu))]
  · rw [List.map_cons, List.map_nil, getD_set ht, if_pos rfl]
theorem kvI_keys {l : List Int} {od : List Nat} : keysD (kvI l od) = od.map natD := by
  unfold keysD kvI
  rw [List.map_map]
  rfl
theorem getD_all {l : List Int} {n : Nat} (h : l.length = n) : (List.range n).map (fun t => l.getD t 0) = l := by
  subst h
  apply List.ext_getElem
  · simp
  · intro i h1 h2
    simp [h2]
def freeB (s : Int) (xs : List (Int × (Int × Int))) (p : Int) : Bool := xs.all fun x => decide (x.1 + x.2.1 ≤ p) || decide (p + s ≤ x.1)
theorem freeB_iff {s p : Int} {xs : List (Int × (Int × Int))} : freeB s xs p = true ↔ freeG s p xs := by
  unfold freeB freeG
  rw [List.all_eq_true]
  constructor
  · intro h x m
    have := h x m
    simp at this
    exact lieO_false.mpr this
  · intro h x m
    have := lieO_false.mp (h x m)
    simpa using this
theorem rgC_up {j c : Int} (h0 : 0 ≤ j) (h1 : j ≤ 200) (c1 : 1 ≤ c) (c2 : c ≤ 64) : rgC 0 j c = true ∧ ∀ y ∈ rngC 0 c (Builtin.Range.rangeSize 0 j c).toNat, ∃ q : Int, y = .int q ∧ 0 ≤ q ∧ q < j ∧ q % c = 0 := by
  have hd0 : 0 ≤ (j - 0 - 1) / c ∨ j ≤ 0 := by
    rcases Int.lt_or_le 0 j with z | z
    · exact .inl (Int.ediv_nonneg (by omega) (by omega))
    · exact .inr z
  have hd1 : 0 < j → (j - 0 - 1) / c ≤ j - 0 - 1 := fun z => Int.ediv_le_self _ (by omega)
  refine ⟨?_, fun y m => ?_⟩
  · unfold rgC
    simp only [Bool.and_eq_true, decide_eq_true_eq]
    refine ⟨⟨by omega, by omega⟩, ?_⟩
    unfold Builtin.Range.small Builtin.Range.rangeSize
    simp only [Builtin.Range.rangeFitsLong, Bool.and_eq_true, Bool.or_eq_true, decide_eq_true_eq, beq_iff_eq, show c > 0 by omega, if_true]
    split <;> omega
  · unfold rngC at m
    obtain ⟨i, mi, rfl⟩ := List.mem_map.mp m
    have hi := List.mem_range.mp mi
    refine ⟨_, rfl, ?_, ?_, ?_⟩
    · have := Int.mul_nonneg (Int.natCast_nonneg i) (by omega : 0 ≤ c)
      omega
    · unfold Builtin.Range.rangeSize at hi
      rw [if_pos (by omega)] at hi
      split at hi
      · have h3 : (i : Int) ≤ (j - 0 - 1) / c := by omega
        have h4 := Int.mul_le_mul_of_nonneg_right h3 (by omega : 0 ≤ c)
        have h5 := Int.ediv_mul_le (j - 0 - 1) (by omega : c ≠ 0)
        omega
      · omega
    · simp
end FM
namespace FM
open PySem PySem.Spec L2 PyProof.Rows
/-! ### max(.., default=..), and a list taken apart -/
def rMaxD (K : Frag) : List V → List V → Hp → VK → Prop := fun vs zs H Q => ∃ (a : Addr) (ns : List Int) (d : V), vs = [V.ref a] ∧ zs = [d] ∧ SqL K H a (ns.map V.int) ∧ (ns = [] → Q d H) ∧ ∀ n r, ns = n :: r → Q (.int (r.foldl max n)) H
theorem reads_ints {h : Heap} : ∀ {ns : List Int} {us : List Value}, Vals (ns.map V.int) us → ∃ as, ReadsAll h us (ns.map .int) as
  | [], _, r => by
    cases r
    exact ⟨[], .nil⟩
  | n :: ns, _, r => by
    cases r with
    | cons e t =>
      obtain ⟨tk, rfl⟩ := e
      obtain ⟨as, q⟩ := reads_ints (h := h) t
      exact ⟨_, .cons (.int n tk) q⟩
theorem alike_intsA (ns : List Int) : PySem.W.AlikeAll (ns.map .int) := by
  refine ⟨fun x m y m2 => ?_, fun x m => ?_⟩
  · obtain ⟨i, _, rfl⟩ := List.mem_map.mp m
    obtain ⟨j, _, rfl⟩ := List.mem_map.mp m2
    simp [PySem.W.alike]
  · obtain ⟨i, _, rfl⟩ := List.mem_map.mp m
    simp
theorem cr_maxD {X : Cx} (hc : X.calm = true) (hu : X.A.units + 1 < cLine) : CallRK X (.builtin "max") [Str.ofString "default"] (rMaxD X.K) := by
  intro pins s σ H xs zs us ws Q I r1 r2 h
  obtain ⟨a, ns, d, rfl, rfl, hs, q0, q1⟩ := h
  obtain ⟨its, rv, hl, _⟩ := I.list hs
  rw [Vals.ref1 r1]
  cases r2 with
  | cons rd t =>
    cases t
    obtain ⟨as, ra⟩ := reads_ints (h := s.heap) rv
    refine PySem.W.max_list_default (xs := ns.map .int) (I.ok.hd hc) hl.isList (by simpa using ra) (alike_intsA ns) (by rw [depth_ints]; omega) (fun e h' tk hk => ?_) fun y ys i v h' tk bs e hv rd2 hk => ?_
    · exact ⟨d, H, I.kept hk, rd, q0 (by simpa using e)⟩
    · cases ns with
      | nil => cases e
      | cons n r =>
        rw [List.map_cons] at e
        injection e with e1 e2
        subst e1 e2
        rw [PySem.W.maxD_ints] at rd2
        cases rd2
        exact ⟨.int _, H, I.kept hk, ⟨_, rfl⟩, q1 n r rfl⟩
def oMaxD : List O → List O → Option O
  | [x], [.fz (.int d)] => match seqL x with
    | some ds => match intsD ds with
      | some [] => some (.fz (.int d))
      | some (n :: r) => some (.fz (.int (r.foldl max n)))
      | none => none
    | none => none
  | _, _ => none
section
variable {k : Kc} {E : XK}
def qCbK (f : List O → List O → Option O) (r z : List O → Option (List O)) : QE := fun ρ => match r ρ with
  | none => none
  | some os => match z ρ with
    | none => none
    | some ps => f os ps
theorem tev_maxD {t tk : TA} {qs qz : List O → Option (List O)} (ha : TAv k t qs) (hb : TAv k tk qz) : TEv k (tCKw (rMaxD k.K) t tk) (qCbK oMaxD qs qz) := by
  intro F H σ ρ S o Q q e h
  unfold qCbK at e
  split at e
  · cases e
  · rename_i os e1
    split at e
    · cases e
    · rename_i ps e2
      refine ha F H σ ρ S os _ q e1 fun vs F1 H1 x1 w1 => hb F1 H1 σ ρ S ps _ (q.xt x1) e2 fun zs F2 H2 x2 w2 => ?_
      have w3 := w1.xt x2
      unfold oMaxD at e
      split at e
      · rename_i x d
        cases w3 with
        | cons w ww =>
          cases ww
          cases w2 with
          | cons z zz =>
            cases zz
            have ez := z.int
            subst ez
            split at e
            · rename_i ds es
              obtain ⟨a, us, rfl, g1, g2⟩ := w.seqL x2.fle es
              split at e
              · rename_i en
                cases e
                have e3 := intsD_eq en
                subst e3
                rw [reps_ints g2] at g1
                exact ⟨a, [], _, rfl, rfl, g1, fun _ => h _ F2 H2 (x1.trans x2) (.fz (.int _)), fun n r e => by cases e⟩
              · rename_i n r en
                cases e
                have e3 := intsD_eq en
                subst e3
                rw [reps_ints g2] at g1
                exact ⟨a, n :: r, _, rfl, rfl, g1, (fun e => by cases e), fun n' r' e => by cases e; exact h _ F2 H2 (x1.trans x2) (.fz (.int _))⟩
              · cases e
            · cases e
      · cases e
def fLst (n : Nat) (f : List PD → List O → Option (List O)) : QG := fun d ρ => match d with
  | .list ds => if ds.length = n then f ds ρ else none
  | _ => none
theorem tgq_lst {gs : TGs} {fs : List PD → List O → Option (List O)} {J : List Nat} {n : Nat} (h1 : TGsq k gs fs J) : TGq k (gLst k.K n gs) (fLst n fs) J := by
  intro F H σ ρ ρ' S v d Q q r e h
  unfold fLst at e
  split at e
  · split at e
    · rename_i ds hn
      cases r with
      | lst a1 a2 => exact ⟨_, _, rfl, sqL_le q.fle a1, by rw [a2.length]; exact hn, h1 F H σ ρ ρ' S _ ds Q q a2 e h⟩
      | dic _ _ e => cases e
      | dit _ _ e => cases e
    · cases e
  · cases e
@[simp] theorem fLst_eq {n : Nat} {f : List PD → List O → Option (List O)} {ds : List PD} {ρ : List O} : fLst n f (.list ds) ρ = if ds.length = n then f ds ρ else none := rfl
@[simp] theorem qCbK_eq {f : List O → List O → Option O} {r z : List O → Option (List O)} {ρ : List O} : qCbK f r z ρ = match r ρ with
    | none => none
    | some os => match z ρ with
      | none => none
      | some ps => f os ps := rfl
theorem foldl_max_le {n m : Int} : ∀ {r : List Int}, (n ≤ m ∧ ∀ x ∈ r, x ≤ m) → r.foldl max n ≤ m := by
  intro r
  induction r generalizing n with
  | nil => intro h; exact h.1
  | cons x r ih =>
    intro h
    have hx := h.2 x List.mem_cons_self
    exact ih ⟨by omega, fun y my => h.2 y (List.mem_cons_of_mem _ my)⟩
theorem le_foldl_max {n : Int} : ∀ {r : List Int}, n ≤ r.foldl max n ∧ ∀ x ∈ r, x ≤ r.foldl max n := by
  intro r
  induction r generalizing n with
  | nil => exact ⟨Int.le_refl _, fun x m => by cases m⟩
  | cons x r ih =>
    have i := ih (n := max n x)
    refine ⟨by have := i.1; simp only [List.foldl_cons]; omega, fun y my => ?_⟩
    rcases List.mem_cons.mp my with e | my
    · have := i.1
      simp only [List.foldl_cons]
      omega
    · exact i.2 y my
end
end FM
namespace FM
open PySem PySem.Spec L2 PyProof.Rows
/-! ### a comprehension in a comprehension -/
theorem relook {p : Str → NameKind → Bool} : ∀ {names : List (Str × NameKind)} {x : Str}, (names.lookup x = some .cell ∨ names.lookup x = some .free) → ((names.map fun (n, k) => if p n k then (n, NameKind.cell) else (n, k)).lookup x = some .cell ∨ (names.map fun (n, k) => if p n k then (n, NameKind.cell) else (n, k)).lookup x = some .free)
  | [], _, h => by simp at h
  | (n, k) :: r, x, h => by
    by_cases e : (x == n) = true
    · rw [List.lookup_cons, e] at h
      simp only [Option.some.injEq] at h
      rw [List.map_cons]
      simp only
      split
      · rw [List.lookup_cons, e]
        exact .inl rfl
      · rw [List.lookup_cons, e]
        simpa using h
    · have e' : (x == n) = false := by simpa using e
      rw [List.lookup_cons, e'] at h
      rw [List.map_cons]
      simp only at h ⊢
      have ih := relook (p := p) h
      split
      · rw [List.lookup_cons, e']
        exact ih
      · rw [List.lookup_cons, e']
        exact ih
theorem blkOk_rel {N : List Str} {inner scope : Scope} {own : List (Str × Nat)} {env : Env} (h : BlkOk N inner scope own) : BlkOk N (relabel inner env) scope own :=
  ⟨h.kind, h.uniq, h.ix, fun y m e => relook (p := fun n k => k == NameKind.free && env.scope.kind == .function && env.kindOf n == some .cell) (h.free y m e), h.own⟩
end FM
namespace FM
open PySem PySem.Spec L2 PyProof.Rows
/-! ### the least number that all borders divide -/
def lcmL : List Nat → Nat → Nat
  | [], m => m
  | b :: r, m => lcmL r (Nat.lcm m b)
theorem div_gcd_mul {m b : Nat} (hm : 0 < m) : m / Nat.gcd m b * b = Nat.lcm m b := by
  have hg : 0 < Nat.gcd m b := Nat.gcd_pos_of_pos_left b hm
  obtain ⟨k, hk⟩ := Nat.gcd_dvd_left m b
  have e1 : m / Nat.gcd m b = k := by
    conv => lhs; arg 1; rw [hk]
    exact Nat.mul_div_cancel_left k hg
  have e2 : Nat.lcm m b = k * b := by
    unfold Nat.lcm
    conv => lhs; arg 1; arg 1; rw [hk]
    rw [Nat.mul_assoc, Nat.mul_div_cancel_left _ hg]
  rw [e1, e2]
theorem lcmL_pos : ∀ {bs : List Nat} {m : Nat}, 0 < m → (∀ b ∈ bs, 0 < b) → 0 < lcmL bs m
  | [], _, h, _ => h
  | b :: r, m, h, hb => lcmL_pos (bs := r) (m := Nat.lcm m b) (Nat.lcm_pos h (hb b List.mem_cons_self)) fun c mc => hb c (List.mem_cons_of_mem _ mc)
theorem dvd_lcmL0 : ∀ {bs : List Nat} {m : Nat}, m ∣ lcmL bs m
  | [], _ => Nat.dvd_refl _
  | b :: r, m => Nat.dvd_trans (Nat.dvd_lcm_left m b) dvd_lcmL0
theorem dvd_lcmL : ∀ {bs : List Nat} {m b : Nat}, b ∈ bs → b ∣ lcmL bs m
  | c :: r, m, b, h => by
    rcases List.mem_cons.mp h with rfl | h
    · exact Nat.dvd_trans (Nat.dvd_lcm_right m b) dvd_lcmL0
    · exact dvd_lcmL (bs := r) (m := Nat.lcm m c) h
theorem lcmL_dvd : ∀ {bs : List Nat} {m k : Nat}, m ∣ k → (∀ b ∈ bs, b ∣ k) → lcmL bs m ∣ k
  | [], _, _, h, _ => h
  | b :: r, m, k, h, hb => lcmL_dvd (bs := r) (m := Nat.lcm m b) (Nat.lcm_dvd h (hb b List.mem_cons_self)) fun c mc => hb c (List.mem_cons_of_mem _ mc)
def primesL : List Nat := [2, 3, 5, 7, 11, 13, 17, 19, 23, 29, 31, 37, 41, 43, 47, 53, 59, 61]
theorem small_prime : ∀ g : Nat, g ≤ 64 → 2 ≤ g → ∃ p ∈ primesL, p ∣ g := by decide
/-- what none of the primes divides, and divides the common border, is 1 -/
theorem no_prime {f : Nat} (hf : ∀ p ∈ primesL, ¬ p ∣ f) : ∀ {bs : List Nat} {m : Nat}, (∀ b ∈ bs, 1 ≤ b ∧ b ≤ 64) → f ∣ lcmL bs m → f ∣ m
  | [], _, _, h => h
  | b :: r, m, hb, h => by
    have h1 := no_prime hf (bs := r) (m := Nat.lcm m b) (fun c mc => hb c (List.mem_cons_of_mem _ mc)) h
    have h2 : f ∣ m * b := Nat.dvd_trans h1 (Nat.lcm_dvd_mul m b)
    have hbb := hb b List.mem_cons_self
    have hc : Nat.Coprime f b := by
      have g1 : Nat.gcd f b ∣ b := Nat.gcd_dvd_right f b
      have g2 := Nat.le_of_dvd (by omega) g1
      rcases Nat.lt_or_ge (Nat.gcd f b) 2 with z | z
      · have : 0 < Nat.gcd f b := Nat.gcd_pos_of_pos_right f (by omega)
        show Nat.gcd f b = 1
        omega
      · obtain ⟨p, mp, dp⟩ := small_prime _ (by omega) z
        exact (hf p mp (Nat.dvd_trans dp (Nat.gcd_dvd_left f b))).elim
    exact hc.dvd_of_dvd_mul_right h2
theorem drop_prime {bs : List Nat} {p : Nat} (hb : ∀ b ∈ bs, 1 ≤ b) (hp : 2 ≤ p) (h : p ∣ lcmL bs 1) : ∃ b ∈ bs, lcmL bs 1 / p % b ≠ 0 := by
  have hl := lcmL_pos (bs := bs) (m := 1) (by decide) fun b m => hb b m
  obtain ⟨k, hk⟩ := h
  have e1 : lcmL bs 1 / p = k := by rw [hk]; exact Nat.mul_div_cancel_left k (by omega)
  rcases Classical.em (∃ b ∈ bs, k % b ≠ 0) with z | z
  · rw [e1]; exact z
  · have hd : lcmL bs 1 ∣ k := lcmL_dvd (Nat.one_dvd k) fun b m => by
      rcases Nat.eq_zero_or_pos (k % b) with w | w
      · exact Nat.dvd_of_mod_eq_zero w
      · exact (z ⟨b, m, by omega⟩).elim
    have hk0 : 0 < k := by
      rcases Nat.eq_zero_or_pos k with w | w
      · rw [w, Nat.mul_zero] at hk; omega
      · exact w
    have hle := Nat.le_of_dvd hk0 hd
    have : k * 2 ≤ p * k := by rw [Nat.mul_comm p k]; exact Nat.mul_le_mul_left k hp
    omega
theorem nat_mod {a b : Nat} : ((a : Int) % (b : Int)) = ((a % b : Nat) : Int) := by omega
theorem nat_div {a b : Nat} : ((a : Int) / (b : Int)) = ((a / b : Nat) : Int) := by omega
end FM
namespace FM
open PySem PySem.Spec L2 PyProof.Rows
/-! ### comprehensions with effects; max of a list -/
def lcW (f : QG) (e : M O) (vs : List Nat) : List PD → List PD → List O → (List PD → List O → Prop) → Prop
  | [], acc, ρ, Q => Q acc ρ
  | x :: xs, acc, ρ, Q => ∃ ρ1, f x ρ = some ρ1 ∧ wM (e ρ1) fun o ρ2 => ∃ d, o = .fz d ∧ acc.length < sizeLine ∧ lcW f e vs xs (acc ++ [d]) (wipeO ρ2 vs) Q
theorem lcW_go {f : QG} {e : M O} {vs : List Nat} {Q : List PD → List O → Prop} : ∀ {xs acc : List PD} {ρ : List O}, lcW f e vs xs acc ρ Q → ∃ ds ρ2, lcGoM f bYes e vs xs acc ρ = .ok ds ρ2 ∧ Q ds ρ2
  | [], acc, ρ, h => ⟨acc, ρ, rfl, h⟩
  | x :: xs, acc, ρ, h => by
    obtain ⟨ρ1, e1, h⟩ := h
    unfold lcGoM
    rw [e1]
    simp only [bYes]
    cases e2 : e ρ1 with
    | ok o ρ2 =>
      rw [e2] at h
      obtain ⟨d, rfl, h1, h2⟩ := h
      simp only [h1, if_true]
      exact lcW_go h2
    | _ => rw [e2] at h; exact h.elim
theorem wM_lcI {mi : M (List PD)} {f : QG} {e : M O} {vs : List Nat} {ρ : List O} {Q : O → List O → Prop} (h : wM (mi ρ) fun ds ρ1 => lcW f e vs ds [] (wipeO ρ1 vs) fun acc ρ2 => Q (.lst acc) ρ2) : wM (mLc mi f bYes e vs ρ) Q := by
  unfold mLc
  cases e1 : mi ρ with
  | ok ds ρ1 =>
    rw [e1] at h
    obtain ⟨acc, ρ2, e2, q⟩ := lcW_go h
    simp only [e2]
    exact q
  | _ => rw [e1] at h; exact h.elim
theorem maxI_cons {x : Int} : ∀ {r : List Int}, maxI (x :: r) = r.foldl max x
  | [] => rfl
  | y :: r => by
    show max x (maxI (y :: r)) = (y :: r).foldl max x
    rw [maxI_cons]
    rw [List.foldl_cons]
    have h : ∀ (r : List Int) (a b : Int), max a (r.foldl max b) = r.foldl max (max a b) := by
      intro r
      induction r with
      | nil => intro a b; rfl
      | cons z r ih =>
        intro a b
        rw [List.foldl_cons, List.foldl_cons, ih, Int.max_assoc]
    exact h r x y
theorem eqv_int {i j : Int} : PyData.eqv (.int i) (.int j) = decide (i = j) := by simp [PyData.eqv, beq_dec]
theorem oIn_ints {i : Int} {l : List Int} : oIn (.fz (.int i)) (.fz (.list (l.map .int))) = some (.fz (.bool (decide (i ∈ l)))) := by
  have e1 := shaped_ints l
  have e2 : SeqAt.shaped (PyData.int i) = true := by simp [SeqAt.shaped, PyData.canLay0, PyData.depth]
  have e3 : ((l.map PyData.int).any fun z => PyData.eqv z (.int i)) = decide (i ∈ l) := by
    rw [List.any_map, Bool.eq_iff_iff, List.any_eq_true]
    constructor
    · rintro ⟨j, mj, e⟩
      simp [eqv_int] at e
      rw [← e]
      simpa using mj
    · intro mi
      exact ⟨i, by simpa using mi, by simp [eqv_int]⟩
  have e4 : bIn (.fz (.int i)) (.fz (.list (l.map .int))) = some (decide (i ∈ l)) := by
    rw [← e3]
    show (if (SeqAt.shaped (PyData.int i) && SeqAt.shaped (PyData.list (l.map PyData.int))) = true then _ else _) = _
    rw [e1, e2]
    rfl
  unfold oIn
  rw [e4]
  rfl
def rngL (lo : Int) (n : Nat) : List Int := (List.range n).map fun i : Nat => lo + (i : Int)
theorem rngD_L {lo : Int} {n : Nat} : rngD lo n = (rngL lo n).map .int := by
  unfold rngD rngL
  rw [List.map_map]
  rfl
theorem rngL_mem {lo x : Int} {n : Nat} : x ∈ rngL lo n ↔ lo ≤ x ∧ x < lo + n := by
  unfold rngL
  rw [List.mem_map]
  constructor
  · rintro ⟨i, m, rfl⟩
    have := List.mem_range.mp m
    omega
  · rintro ⟨h1, h2⟩
    exact ⟨(x - lo).toNat, List.mem_range.mpr (by omega), by omega⟩
theorem qLrg2_i {a b : QE} {ρ : List O} {m n : Int} (h1 : -(2 ^ 62) ≤ m) (h2 : n < 2 ^ 62) (h3 : m ≤ n) (h4 : n - m ≤ 16777216) (ea : a ρ = some (.fz (.int m))) (eb : b ρ = some (.fz (.int n))) : qLrg2 a b ρ = some (.lst ((rngL m (n - m).toNat).map .int)) := by
  have b1 : big62 m = true := big62_of h1 (by omega)
  have b2 : big62 n = true := big62_of (by omega) h2
  have d : decide ((n - m).toNat ≤ 2 ^ 24) = true := decide_eq_true (by omega)
  unfold qLrg2
  rw [ea, eb]
  simp only [b1, b2, d, Bool.and_self, if_true]
  rw [rngD_L]
@[simp] theorem oMax1_l {l : List Int} (h : 0 < l.length) : oMax1 [.fz (.list (l.map .int))] = some (.fz (.int (maxI l))) := by
  have e : intsD (l.map PyData.int) = some l := intsD_map l
  cases l with
  | nil => cases h
  | cons x l => simp [oMax1, oInts, seqL, e]
def topD (d : Int) : List Int → Int
  | [] => d
  | n :: r => r.foldl max n
@[simp] theorem oMaxD_l {l : List Int} {d : Int} : oMaxD [.fz (.list (l.map .int))] [.fz (.int d)] = some (.fz (.int (topD d l))) := by
  have e : intsD (l.map PyData.int) = some l := intsD_map l
  show (match intsD (l.map PyData.int) with | some [] => some (O.fz (.int d)) | some (n :: r) => some (O.fz (.int (r.foldl max n))) | none => none) = _
  rw [e]
  cases l <;> rfl
end FM
namespace FM
open PySem PySem.Spec L2 PyProof.Rows
/-! ### list(range(..)) of what has effects; xs[::-1] -/
section
variable {k : Kc} {E : XK}
open Classical in
noncomputable def mLrg1 (m : M O) : M O := fun ρ => match m ρ with
  | .ok (.fz (.int n)) ρ1 => if 0 ≤ n ∧ n ≤ 16777216 then .ok (.lst (rngD 0 n.toNat)) ρ1 else .bad
  | .ok _ _ => .bad
  | .exc x ρ1 => .exc x ρ1
  | .bad => .bad
theorem tem_lrg1 {te : TE} {m : M O} (h : TEm k E te m) : TEm k E (tLstRg (tRg1 te)) (mLrg1 m) := by
  intro P e σ ρ vs os H Q s g
  refine h P e σ ρ vs os H _ s ?_
  unfold mLrg1 at g
  cases e1 : m ρ with
  | exc x ρ1 => rw [e1] at g; exact g
  | bad => rw [e1] at g; exact g
  | ok o ρ1 =>
    rw [e1] at g
    intro v H1 s1
    split at g
    · rename_i n ρ2 ee
      cases ee
      split at g
      · rename_i hz
        obtain ⟨F, S1, S2, s1⟩ := s1
        have ev := s1.top.1
        obtain ⟨_, s2⟩ := s1.top
        have hv : v = .int n := by
          cases ev with
          | int => rfl
          | dic _ _ e => cases e
          | dit _ _ e => cases e
        refine ⟨n, hv, ⟨by decide, by decide, by omega, by omega, by omega⟩, ?_⟩
        have r := reps_rg (K := k.K) (F := F) 0 n
        rw [Int.sub_zero] at r
        exact own_list s2.fr.fle r fun w F' H' T x ow fr => g w H' ⟨F', S1, T ++ S2, s2.push x ow fr⟩
      · exact g.elim
    · exact g.elim
    · rename_i hx; cases hx
    · rename_i hx; cases hx
def oRevL (x : O) : Option O := match seqL x with
  | some ds => some (.lst ds.reverse)
  | none => none
def qRevL (a : QE) : QE := fun ρ => match a ρ with
  | none => none
  | some x => oRevL x
theorem Reps.rev {K : Frag} {F : Hp} : ∀ {vs : List V} {ds : List PD}, Reps K F vs ds → Reps K F vs.reverse ds.reverse
  | _, _, .nil => .nil
  | v :: vs, d :: ds, .cons h r => by
    rw [List.reverse_cons, List.reverse_cons]
    exact Reps.append (Reps.rev r) (.cons h .nil)
theorem ten_revL {te : TE} {qa : QE} (ha : TEv k te qa) : TEn k (tRevL k.K te) (qRevL qa) := by
  intro F H σ ρ S o Q q e h
  unfold qRevL at e
  split at e
  · cases e
  · rename_i x e1
    refine ha F H σ ρ S x _ q e1 fun v F1 H1 x1 w1 => ?_
    unfold oRevL at e
    split at e
    · rename_i ds es
      cases e
      obtain ⟨a, vs, rfl, g1, g2⟩ := w1.seqL x1.fle es
      exact ⟨a, vs, rfl, g1, own_list x1.fle (Reps.rev g2) fun w F' H' T x ow fr => h w F' H' T (x1.trans x) ow (fr.back x1)⟩
    · cases e
@[simp] theorem qRevL_eq {a : QE} {ρ : List O} : qRevL a ρ = match a ρ with
    | none => none
    | some x => oRevL x := rfl
@[simp] theorem oRevL_l {ds : List PD} : oRevL (.fz (.list ds)) = some (.lst ds.reverse) := rfl
@[simp] theorem wM_lrg1 {m : M O} {ρ : List O} {Q : O → List O → Prop} : wM (mLrg1 m ρ) Q = wM (m ρ) fun o ρ1 => ∃ n : Int, o = .fz (.int n) ∧ 0 ≤ n ∧ n ≤ 16777216 ∧ Q (.lst (rngD 0 n.toNat)) ρ1 := by
  unfold mLrg1
  cases e : m ρ with
  | ok o ρ1 =>
    cases o with
    | fz d =>
      cases d with
      | int n =>
        by_cases c : 0 ≤ n ∧ n ≤ 16777216
        · simp [c]
        · simp [c, wM]
          intro h1 h2
          exact (c ⟨h1, h2⟩).elim
      | _ => simp [wM]
    | _ => simp [wM]
  | _ => rfl
end
end FM
namespace FM
open PySem PySem.Spec L2 PyProof.Rows
/-! ### a list's method called within a comprehension -/
section
variable {X : Cx} {K : Frag} {o e : Expr} {es : List Expr} {to : TE} {t : TA} {name : Str} {apos cpos : Pos} {T id : String} {r : V → List V → Hp → VK → Prop}
theorem pe_bmC (pa : PlainAttrs T) (slot : Slot T name id) (hty : typeOf (.builtin id) = pure (.type "method_descriptor")) (hm : MtR X id r) (ho : PE X o to) (ha : PA X (e :: es) t) (hK : X.K = K := by rfl)
    (hbase : attributeBase o name X.env (eval o X.env) = eval o X.env := by rfl)
    (hfew : ((backTo cpos (starEach (e :: es) X.env)).all (fun x => !x.1) && (backToKw cpos (keywordEach [] X.env)).all (fun x => x.1.isSome)
      && decide ((e :: es).length + ([] : List Keyword).length + (if ([] : List Keyword).isEmpty then 0 else 1) < 30)) = true := by rfl)
    (hline : (apos.endLine == cpos.line) = true := by rfl) (hs : starEach (e :: es) X.env = (false, eval e X.env) :: starEach es X.env := by rfl) (hplain : (backTo cpos (starEach es X.env)).any (·.1) = false := by rfl) :
    PE X (.Call (.Attribute o name apos) (e :: es) [] cpos) (tBM K T r to t) := by
  subst hK
  exact pe_bm pa slot hty hm ho ha hbase hfew hline hs hplain
end
end FM
namespace FM
open PySem PySem.Spec L2 PyProof.Rows
/-! ### list.count of ints -/
section
variable {k : Kc} {ta tb : TE} {qa qb : QE}
def oCnt (x y : O) : Option O := match seqL x, y with
  | some ds, .fz (.int i) => match intsD ds with
    | some ns => some (.fz (.int ((ns.count i : Nat) : Int)))
    | none => none
  | _, _ => none
theorem tev_cnt (ha : TEv k ta qa) (hb : TEv k tb qb) : TEv k (tBM k.K "list" (rCntI k.K) ta (tCons tb tNil)) (qOp oCnt qa qb) := by
  intro F H σ ρ S o Q q e h
  unfold qOp at e
  cases e1 : qa ρ with
  | none => rw [e1] at e; cases e
  | some x =>
    rw [e1] at e
    cases e2 : qb ρ with
    | none => simp only [e2] at e; cases e
    | some y =>
      simp only [e2] at e
      unfold oCnt at e
      split at e
      · rename_i ds i es
        split at e
        · rename_i ns en
          cases e
          refine ha F H σ ρ S x _ q e1 fun v F1 H1 x1 w1 => ?_
          obtain ⟨a, vs, rfl, g1, g2⟩ := w1.seqL x1.fle es
          refine ⟨.inl ⟨rfl, vs, g1⟩, ?_⟩
          refine hb F1 H1 σ ρ S _ _ (q.xt x1) e2 fun w F2 H2 x2 w2 => ?_
          obtain ⟨a2, vs2, ee, g3, g4⟩ := (w1.xt x2).seqL x2.fle es
          cases ee
          have hw : w = .int i := by
            have r := w2.rep
            cases r with
            | int => rfl
            | dic _ _ e => cases e
            | dit _ _ e => cases e
          subst hw
          have e3 := intsD_eq en
          subst e3
          rw [reps_ints g4] at g3
          exact ⟨a, ns, i, rfl, rfl, g3, h _ F2 H2 (x1.trans x2) (.fz (.int _))⟩
        · cases e
      · cases e
@[simp] theorem oCnt_l {l : List Int} {i : Int} : oCnt (.fz (.list (l.map .int))) (.fz (.int i)) = some (.fz (.int ((l.count i : Nat) : Int))) := by
  have e : intsD (l.map PyData.int) = some l := intsD_map l
  unfold oCnt
  show (match intsD (l.map PyData.int) with | some ns => some (O.fz (.int ((ns.count i : Nat) : Int))) | none => none) = _
  rw [e]
end
/-! ### what is told of a call is used at once -/
def frz1 (o : O) : O := if flatO o then match toPD o with
  | some d => .fz d
  | none => .dead
  else .dead
def frzA (ρ : List O) : List O := ρ.map frz1
@[simp] theorem frzA_nil : frzA [] = [] := rfl
@[simp] theorem frzA_cons {o : O} {ρ : List O} : frzA (o :: ρ) = frz1 o :: frzA ρ := rfl
@[simp] theorem frz1_fz {d : PD} : frz1 (.fz d) = .fz d := rfl
@[simp] theorem frz1_lst {ds : List PD} : frz1 (.lst ds) = .fz (.list ds) := rfl
def qTmp (q : QE) : QE := fun ρ => match q (frzA ρ) with
  | some (.fz d) => if imm d then some (.fz d) else none
  | _ => none
@[simp] theorem qTmp_eq {q : QE} {ρ : List O} : qTmp q ρ = match q (frzA ρ) with
  | some (.fz d) => if imm d then some (.fz d) else none
  | _ => none := rfl
theorem envs_flat {k : Kc} {F H : Hp} : ∀ {σ : L2.St} {ρ : List O} {S : List Addr}, Envs k F H σ ρ S → (∀ a ∈ S, F a = none) → ∃ T : List Addr, (∀ a ∈ T, a ∈ S) ∧ (∀ a ∈ T, ∀ vs, H a ≠ some (.tup vs)) ∧ (∀ U : List Addr, (∀ a ∈ T, a ∈ U) → (∀ a ∈ U, F a = none) → Envs k (over F H U) H σ (frzA ρ) [])
  | _, _, _, .nil, _ => ⟨[], (fun a m => by cases m), (fun a m => by cases m), fun _ _ _ => .nil⟩
  | _, _, _, .dead r, off => by
    obtain ⟨T, m, n, e⟩ := envs_flat r off
    exact ⟨T, m, n, fun U h1 h2 => .dead (e U h1 h2)⟩
  | _, _, _, .cons (o := o) w r, off => by
    obtain ⟨T2, m2, n2, e2⟩ := envs_flat r fun a z => off a (List.mem_append_right _ z)
    by_cases c : flatO o = true
    · cases q1 : toPD o with
      | none =>
        have e : frz1 o = .dead := by unfold frz1; rw [if_pos c, q1]
        refine ⟨T2, fun a z => List.mem_append_right _ (m2 a z), n2, fun U h1 h2 => ?_⟩
        rw [frzA_cons, e]
        exact .dead (e2 U h1 h2)
      | some d =>
        have e : frz1 o = .fz d := by unfold frz1; rw [if_pos c, q1]
        refine ⟨_ ++ T2, fun a z => (List.mem_append.mp z).elim (fun z => List.mem_append_left _ z) fun z => List.mem_append_right _ (m2 a z), fun a z => (List.mem_append.mp z).elim (Own.notup w c a) (n2 a), fun U h1 h2 => ?_⟩
        rw [frzA_cons, e]
        have rr := own_fz (T := U) (over_sub fun a z => h2 a z) (fun a u m r => over_rd m r) (fun a vs m r => by rw [over_in m]; exact r) (fun a z => h1 a (List.mem_append_left _ z)) w q1
        exact .cons (S := []) (T := []) (.fz rr) (e2 U (fun a z => h1 a (List.mem_append_right _ z)) h2)
    · have e : frz1 o = .dead := by unfold frz1; rw [if_neg c]
      refine ⟨T2, fun a z => List.mem_append_right _ (m2 a z), n2, fun U h1 h2 => ?_⟩
      rw [frzA_cons, e]
      exact .dead (e2 U h1 h2)
theorem tev_tmp {k : Kc} {te : TE} {q : QE} (h : TEv k te q) : TEv k te (qTmp q) := by
  intro F H σ ρ S o Q qst e g
  unfold qTmp at e
  split at e
  · rename_i d e1
    split at e
    · rename_i im
      cases e
      obtain ⟨T, mT, nT, rT⟩ := envs_flat qst.env qst.off
      have offT : ∀ a ∈ T, F a = none := fun a z => qst.off a (mT a z)
      refine h (over F H T) H σ (frzA ρ) [] _ _ ⟨over_le qst.fle, rT T (fun _ z => z) offT, fun a m => by cases m⟩ e1 fun v F' H' x w => ?_
      have r := w.rep
      let G : Hp := fun a => if a ∈ T then none else F' a
      have gout : ∀ {a : Addr}, a ∉ T → G a = F' a := fun n => if_neg n
      have hT : ∀ a ∈ T, ∃ u, H a = some u := fun a z => by
        cases w : H a with
        | none => exact absurd w (qst.env.there a (mT a z))
        | some u => exact ⟨u, rfl⟩
      refine g v G H' ⟨x.ex, fun a u z => ?_, fun a u z => ?_, fun a u z => ?_⟩ (.fz (r.imm (fun a vs z => ?_) im))
      · have n : a ∉ T := fun m => by rw [offT a m] at z; cases z
        rw [gout n]
        exact x.sub a u (by rw [over_out n]; exact z)
      · by_cases n : a ∈ T
        · have : G a = none := if_pos n
          rw [this] at z; cases z
        · rw [gout n] at z
          exact x.fle a u z
      · by_cases n : a ∈ T
        · have : G a = none := if_pos n
          rw [this] at z; cases z
        · rw [gout n] at z
          rcases x.fresh a u z with y | y
          · rw [over_out n] at y; exact .inl y
          · exact .inr y
      · have n : a ∉ T := fun m => by
          obtain ⟨u, hu⟩ := hT a m
          have := x.sub a u (by rw [over_in m]; exact hu)
          rw [z] at this
          cases this
          exact nT a m vs hu
        rw [gout n]
        exact z
    · cases e
  · cases e
end FM
namespace FM
open PySem PySem.Spec L2 PyProof.Rows
def topS (i : Nat) : Stmt := PySem.Challenge.pw_frameshare_k46_moves_that_lose_nothing.main.body.getD i (.Pass ⟨0, 0, 0, 0⟩)
structure Fct (mg : Str → Option Value) : Prop where
  f_abs : mg "abs" = none
  f_all : mg "all" = none
  f_bool : mg "bool" = none
  f_enumerate : mg "enumerate" = none
  f_int : mg "int" = none
  f_isinstance : mg "isinstance" = none
  f_len : mg "len" = none
  f_list : mg "list" = none
  f_max : mg "max" = none
  f_min : mg "min" = none
  f_range : mg "range" = none
  f_str : mg "str" = none
  f_tuple : mg "tuple" = none
  f_zip : mg "zip" = none
section
variable {P : Program} {w : World} {K : Frag} {mg : Str → Option Value} {base : Heap} {cl : Nat → Addr}
abbrev s__law_tape : Stmt := topS 13
theorem sc__law_tape : FnScope ["_law_script", "_law_k", "_law_cell"] ["_law_script", "_law_k"] (defScope s__law_tape) := ⟨rfl, rfl, rfl, by decide +kernel, rfl, by decide +kernel, by decide +kernel⟩
noncomputable def m__law_tape : MS := (sSeq (sSet 2 (mLift (qIf (qB (qOp oLt (qVar 1) (qCb oLen (qCons (qVar 0) qNil)))) (qOp oIx (qVar 0) (qVar 1)) (qC (.int 0))))) (sRet (mNew (qLst (qCons (qOp oMul (qCb oAbs (qCons (qVar 2) qNil)) (qCb oInt (qCons (qOp oGe (qCb oAbs (qCons (qVar 2) qNil)) (qOp oPow (qC (.int 10)) (qC (.int 18)))) qNil))) (qCons (qOp oAdd (qOp oAdd (qOp oMod (qVar 2) (qC (.int 2305843009213693951))) (qOp oMul (qC (.int 39373)) (qVar 1))) (qC (.int 17))) (qCons (qC (.int 0)) qNil)))))))
noncomputable def f__law_tape : List O → FR := defN 1 [false, false] m__law_tape
theorem ok__law_tape {f : Addr} {fd : FuncData} (Fc : Fct mg) (F : FunD K "_law_tape" "_law_tape" (defArgs s__law_tape) (defBody s__law_tape) (defScope s__law_tape) [] [] f fd) (g : mg "_law_tape" = some (.ref f)) : CalG P w K mg base 1 "_law_tape" (spM ⟨K, cl⟩ 2 f__law_tape) := by
  refine ⟨f, fd, ["_law_script", "_law_k"], ?_, g, F.kp, F.bindsN fun _ _ _ _ _ _ us hl => match us, hl with | [_, _], _ => rfl⟩
  refine def_okN (io := [false, false]) (more := 1) (m := m__law_tape) F sc__law_tape rfl rfl ?_
  intro cdv A outer s H E hr
  exact ⟨_, _, (pss_cons (ps_set (i := 2) sc__law_tape.nd rfl (.inl rfl) (pe_ifExp (pt_cmpR op_lt (pv 1) (pe_callB call_lenU rfl Fc.f_len (by rfl) (pa_cons (pv 0) pa_nil)) (nomark _)) (pe_ix (ix_U hr.u1) (pv 0) (pv 1) (fun _ _ => rfl)) pe_int)) (pss_one (ps_ret (pe_lst (pa_cons (pe_op op_mulU (pe_callB call_abs rfl Fc.f_abs (by rfl) (pa_cons (pv 2) pa_nil)) (pe_callTy call_intU rfl Fc.f_int (by rfl) (pa_cons (pe_cmpR op_ge (pe_callB call_abs rfl Fc.f_abs (by rfl) (pa_cons (pv 2) pa_nil)) (pe_op op_pow pe_int pe_int) (nomark _)) pa_nil))) (pa_cons (pe_op op_addU (pe_op op_addU (pe_op op_mod (pv 2) pe_int) (pe_op op_mulU pe_int (pv 1))) pe_int) (pa_cons pe_int pa_nil))))))), (tsm_seq (tsm_set (tem_lift (tev_if (ttv_test (tev_op (tev_var (i := 1)) (tev_cb (tav_cons (tev_var (i := 0)) tav_nil) cb_len) ov_lt)) (tev_op (tev_var (i := 0)) (tev_var (i := 1)) ov_ix) (tev_c fun _ => .int _)))) (tsm_ret (tem_new (ten_lst (tav_cons (tev_op (tev_cb (tav_cons (tev_var (i := 2)) tav_nil) cb_abs) (tev_cb (tav_cons (tev_op (tev_cb (tav_cons (tev_var (i := 2)) tav_nil) cb_abs) (tev_op (tev_c fun _ => .int _) (tev_c fun _ => .int _) ov_pow) ov_ge) tav_nil) cb_int) ov_mul) (tav_cons (tev_op (tev_op (tev_op (tev_var (i := 2)) (tev_c fun _ => .int _) ov_mod) (tev_op (tev_c fun _ => .int _) (tev_var (i := 1)) ov_mul) ov_add) (tev_c fun _ => .int _) ov_add) (tav_cons (tev_c fun _ => .int _) tav_nil))))))), by decide⟩
abbrev s__law_draw : Stmt := topS 14
theorem sc__law_draw : FnScope ["_law_tape_here", "_law_many", "_law_found", "_law_once", "_law_twice"] ["_law_tape_here", "_law_many"] (defScope s__law_draw) := ⟨rfl, rfl, rfl, by decide +kernel, rfl, by decide +kernel, by decide +kernel⟩
noncomputable def m__law_draw : MS := (sSeq (sIf (bLift (qB (qOp oGt (qOp oIx (qVar 0) (qC (.int 0))) (qC (.int 0))))) (sSeq (sSet 2 (mLift (qOp oMod (qOp oIx (qVar 0) (qC (.int 0))) (qVar 1)))) (sSeq (sSetU 0 (qC (.int 0)) (mLift (qOp oDiv (qOp oIx (qVar 0) (qC (.int 0))) (qVar 1)))) (sRet (mLift (qVar 2))))) sNext) (sSeq (sSetU 0 (qC (.int 2)) (mLift (qOp oAdd (qOp oIx (qVar 0) (qC (.int 2))) (qC (.int 1))))) (sSeq (sSet 3 (mLift (qOp oMod (qOp oPow (qOp oAdd (qOp oIx (qVar 0) (qC (.int 1))) (qOp oMul (qC (.int 39373)) (qOp oIx (qVar 0) (qC (.int 2))))) (qC (.int 5))) (qC (.int 2147483647))))) (sSeq (sSet 4 (mLift (qOp oMod (qOp oMul (qOp oAdd (qVar 3) (qOp oIx (qVar 0) (qC (.int 2)))) (qOp oAdd (qOp oAdd (qOp oMod (qVar 3) (qC (.int 40009))) (qC (.int 7))) (qOp oIx (qVar 0) (qC (.int 2))))) (qC (.int 2147483629))))) (sRet (mLift (qOp oMod (qOp oDiv (qOp oMod (qOp oAdd (qOp oMul (qVar 4) (qC (.int 48271))) (qVar 3)) (qC (.int 2147483587))) (qC (.int 64))) (qVar 1))))))))
noncomputable def f__law_draw : List O → FR := defN 3 [true, false] m__law_draw
theorem ok__law_draw {f : Addr} {fd : FuncData} (Fc : Fct mg) (F : FunD K "_law_draw" "_law_draw" (defArgs s__law_draw) (defBody s__law_draw) (defScope s__law_draw) [] [] f fd) (g : mg "_law_draw" = some (.ref f)) : CalG P w K mg base 1 "_law_draw" (spM ⟨K, cl⟩ 2 f__law_draw) := by
  refine ⟨f, fd, ["_law_tape_here", "_law_many"], ?_, g, F.kp, F.bindsN fun _ _ _ _ _ _ us hl => match us, hl with | [_, _], _ => rfl⟩
  refine def_okN (io := [true, false]) (more := 3) (m := m__law_draw) F sc__law_draw rfl rfl ?_
  intro cdv A outer s H E hr
  exact ⟨_, _, (pss_cons (ps_if (pt_cmpR op_gt (pe_ix (ix_U hr.u1) (pv 0) pe_int (fun _ _ => rfl)) pe_int (nomark _)) (pss_cons (ps_set (i := 2) sc__law_draw.nd rfl (.inl rfl) (pe_op op_mod (pe_ix (ix_U hr.u1) (pv 0) pe_int (fun _ _ => rfl)) (pv 1))) (pss_cons (ps_asg (pe_op op_fdivW (pe_ix (ix_U hr.u1) (pv 0) pe_int (fun _ _ => rfl)) (pv 1)) (pg_sub (pv 0) pe_int (set_U hr.u1))) (pss_one (ps_ret (pv 2))))) pss_nil) (pss_cons (ps_asg (pe_op op_addU (pe_ix (ix_U hr.u1) (pv 0) pe_int (fun _ _ => rfl)) pe_int) (pg_sub (pv 0) pe_int (set_U hr.u1))) (pss_cons (ps_set (i := 3) sc__law_draw.nd rfl (.inl rfl) (pe_op op_mod (pe_op op_pow (pe_op op_addU (pe_ix (ix_U hr.u1) (pv 0) pe_int (fun _ _ => rfl)) (pe_op op_mulU pe_int (pe_ix (ix_U hr.u1) (pv 0) pe_int (fun _ _ => rfl)))) pe_int) pe_int)) (pss_cons (ps_set (i := 4) sc__law_draw.nd rfl (.inl rfl) (pe_op op_mod (pe_op op_mulU (pe_op op_addU (pv 3) (pe_ix (ix_U hr.u1) (pv 0) pe_int (fun _ _ => rfl))) (pe_op op_addU (pe_op op_addU (pe_op op_mod (pv 3) pe_int) pe_int) (pe_ix (ix_U hr.u1) (pv 0) pe_int (fun _ _ => rfl)))) pe_int)) (pss_one (ps_ret (pe_op op_mod (pe_op op_fdivW (pe_op op_mod (pe_op op_addU (pe_op op_mulU (pv 4) pe_int) (pv 3)) pe_int) pe_int) (pv 1)))))))), (tsm_seq (tsm_if (ttm_lift (ttv_test (tev_op (tev_op (tev_var (i := 0)) (tev_c fun _ => .int _) ov_ix) (tev_c fun _ => .int _) ov_gt))) (tsm_seq (tsm_set (tem_lift (tev_op (tev_op (tev_var (i := 0)) (tev_c fun _ => .int _) ov_ix) (tev_var (i := 1)) ov_mod))) (tsm_seq (tsm_setU (tem_lift (tev_op (tev_op (tev_var (i := 0)) (tev_c fun _ => .int _) ov_ix) (tev_var (i := 1)) ov_div)) (tev_c fun _ => .int _)) (tsm_ret (tem_lift (tev_var (i := 2)))))) tsm_next) (tsm_seq (tsm_setU (tem_lift (tev_op (tev_op (tev_var (i := 0)) (tev_c fun _ => .int _) ov_ix) (tev_c fun _ => .int _) ov_add)) (tev_c fun _ => .int _)) (tsm_seq (tsm_set (tem_lift (tev_op (tev_op (tev_op (tev_op (tev_var (i := 0)) (tev_c fun _ => .int _) ov_ix) (tev_op (tev_c fun _ => .int _) (tev_op (tev_var (i := 0)) (tev_c fun _ => .int _) ov_ix) ov_mul) ov_add) (tev_c fun _ => .int _) ov_pow) (tev_c fun _ => .int _) ov_mod))) (tsm_seq (tsm_set (tem_lift (tev_op (tev_op (tev_op (tev_var (i := 3)) (tev_op (tev_var (i := 0)) (tev_c fun _ => .int _) ov_ix) ov_add) (tev_op (tev_op (tev_op (tev_var (i := 3)) (tev_c fun _ => .int _) ov_mod) (tev_c fun _ => .int _) ov_add) (tev_op (tev_var (i := 0)) (tev_c fun _ => .int _) ov_ix) ov_add) ov_mul) (tev_c fun _ => .int _) ov_mod))) (tsm_ret (tem_lift (tev_op (tev_op (tev_op (tev_op (tev_op (tev_var (i := 4)) (tev_c fun _ => .int _) ov_mul) (tev_var (i := 3)) ov_add) (tev_c fun _ => .int _) ov_mod) (tev_c fun _ => .int _) ov_div) (tev_var (i := 1)) ov_mod))))))), by decide⟩
abbrev s__law_slots : Stmt := topS 19
theorem sc__law_slots : FnScope ["_law_tape_here", "_law_many", "_law_size", "_law_left", "_law_t"] ["_law_tape_here", "_law_many", "_law_size"] (defScope s__law_slots) := ⟨rfl, rfl, rfl, by decide +kernel, rfl, by decide +kernel, by decide +kernel⟩
noncomputable def m__law_slots : MS := (sSeq (sSet 3 (mLrg1 (mOp oAdd (mLift (qVar 1)) (frzM (mCall f__law_draw [some 0, none] (mRef 0 (mCons (mLift (qC (.int 3))) mNil))))))) (sRet (mLc (iLift (qRng1 (qCons (qVar 1) qNil))) (fName 4) bYes (mOp oMul (mLift (qVar 2)) (mMt 3 fPopAt (mCons (frzM (mCall f__law_draw [some 0, none] (mRef 0 (mCons (mLift (qCb oLen (qCons (qVar 3) qNil))) mNil)))) mNil))) [4])))
noncomputable def f__law_slots : List O → FR := defN 2 [true, false, false] m__law_slots
theorem ok__law_slots {f : Addr} {fd : FuncData} (Fc : Fct mg) (F : FunD K "_law_slots" "_law_slots" (defArgs s__law_slots) (defBody s__law_slots) (defScope s__law_slots) [] [] f fd) (g : mg "_law_slots" = some (.ref f)) (c__law_draw : CalG P w K mg base 1 "_law_draw" (spM ⟨K, cl⟩ 2 f__law_draw)) : CalG P w K mg base 2 "_law_slots" (spM ⟨K, cl⟩ 3 f__law_slots) := by
  refine ⟨f, fd, ["_law_tape_here", "_law_many", "_law_size"], ?_, g, F.kp, F.bindsN fun _ _ _ _ _ _ us hl => match us, hl with | [_, _, _], _ => rfl⟩
  refine def_okN (io := [true, false, false]) (more := 2) (m := m__law_slots) F sc__law_slots rfl rfl ?_
  intro cdv A outer s H E hr
  exact ⟨_, _, (pss_cons (ps_set (i := 3) sc__law_slots.nd rfl (.inr rfl) (pe_listRg rfl rfl Fc.f_list (prg_1 rfl Fc.f_range (pe_op op_addU (pv 1) (pe_g c__law_draw hr (by decide) passL rfl (pa_cons (pv 0) (pa_cons pe_int pa_nil))))))) (pss_one (ps_ret (pe_lc (own := [("_law_t", 4)]) rfl sc__law_slots.nd (pi_range1 rfl Fc.f_range (pa_cons (pv 1) pa_nil)) (blkOk_by (N := ["_law_tape_here", "_law_many", "_law_size", "_law_left", "_law_t"]) (sc := defScope s__law_slots) (own := [("_law_t", 4)]) (by decide +kernel)) (fun _ _ _ _ _ => (pg_name (i := 4) sc__law_slots.nd rfl (.inl rfl))) (fun _ _ _ _ _ => pts_nil) (fun _ _ _ _ _ => (pe_op op_mulU (pv 2) (pe_bmC (K := K) PySem.F.plainAttrs_list PySem.F.slot_list_pop PySem.F.type_list_pop mt_popAt (pv 3) (pa_cons (pe_g c__law_draw hr (by decide) passL rfl (pa_cons (pv 0) (pa_cons (pe_callB call_lenU rfl Fc.f_len (by rfl) (pa_cons (pv 3) pa_nil)) pa_nil))) pa_nil)))))))), (tsm_seq (tsm_set (tem_lrg1 (tem_op (tem_lift (tev_var (i := 1))) (tem_frz (tem_call rfl (tam_ref (tam_val (tem_lift (tev_c fun _ => .int _)) tam_nil)))) ov_add))) (tsm_ret (tem_lc (tim_lift (tif_rng1 (tav_cons (tev_var (i := 1)) tav_nil))) tgq_name (by decide) ttm_yes (tem_op (tem_lift (tev_var (i := 2))) (tem_mt (tam_val (tem_frz (tem_call rfl (tam_ref (tam_val (tem_lift (tev_cb (tav_cons (tev_var (i := 3)) tav_nil) cb_len)) tam_nil)))) tam_nil) lm_popAt) ov_mul)))), by decide⟩
abbrev s__law_things : Stmt := topS 15
theorem sc__law_things : FnScope ["_law_tape_here", "_law_many", "_law_way", "_law_found", "_law_k", "_law_size", "_law_border"] ["_law_tape_here", "_law_many"] (defScope s__law_things) := ⟨rfl, rfl, rfl, by decide +kernel, rfl, by decide +kernel, by decide +kernel⟩
noncomputable def m__law_things : MS := (sSeq (sPar 2 3 (mCons (frzM (mCall f__law_draw [some 0, none] (mRef 0 (mCons (mLift (qC (.int 4))) mNil)))) (mCons (mNew (qLst qNil)) mNil))) (sSeq (sFor (iLift (qRng1 (qCons (qVar 1) qNil))) (fName 4) (sSeq (sSet 5 (mOp oIx (frzM (mLst (mCons (mOp oAdd (mLift (qC (.int 1))) (frzM (mCall f__law_draw [some 0, none] (mRef 0 (mCons (mLift (qC (.int 9))) mNil))))) (mCons (mLift (qC (.int 8))) (mCons (mOp oAdd (mLift (qC (.int 1))) (frzM (mCall f__law_draw [some 0, none] (mRef 0 (mCons (mLift (qC (.int 3))) mNil))))) (mCons (mOp oAdd (mLift (qC (.int 1))) (frzM (mCall f__law_draw [some 0, none] (mRef 0 (mCons (mLift (qOp oPow (qC (.int 10)) (qC (.int 9)))) mNil))))) mNil)))))) (mLift (qVar 2)))) (sSeq (sSet 6 (mOp oIx (frzM (mLst (mCons (mLift (qC (.int 1))) (mCons (mLift (qC (.int 1))) (mCons (mLift (qC (.int 2))) (mCons (mLift (qC (.int 4))) (mCons (mLift (qC (.int 8))) (mCons (mLift (qC (.int 3))) (mCons (mLift (qC (.int 6))) (mCons (mOp oAdd (mLift (qC (.int 1))) (frzM (mCall f__law_draw [some 0, none] (mRef 0 (mCons (mLift (qC (.int 64))) mNil))))) mNil)))))))))) (frzM (mCall f__law_draw [some 0, none] (mRef 0 (mCons (mLift (qC (.int 8))) mNil)))))) (sDrop (mMt 3 fAppend (mCons (mTup (mCons (mLift (qVar 5)) (mCons (mOp oIx (frzM (mLst (mCons (mLift (qVar 6)) (mCons (mOp oIx (mLift (qFz (qLst (qCons (qC (.int 1)) (qCons (qC (.int 2)) (qCons (qC (.int 4)) (qCons (qC (.int 8)) qNil))))))) (frzM (mCall f__law_draw [some 0, none] (mRef 0 (mCons (mLift (qC (.int 4))) mNil))))) mNil)))) (mLift (qCb oInt (qCons (qOp oEq (qVar 2) (qC (.int 1))) qNil)))) mNil))) mNil)))))) (sRet (mLift (qCb oTuple (qCons (qVar 3) qNil))))))
noncomputable def f__law_things : List O → FR := defN 5 [true, false] m__law_things
theorem ok__law_things {f : Addr} {fd : FuncData} (Fc : Fct mg) (F : FunD K "_law_things" "_law_things" (defArgs s__law_things) (defBody s__law_things) (defScope s__law_things) [] [] f fd) (g : mg "_law_things" = some (.ref f)) (c__law_draw : CalG P w K mg base 1 "_law_draw" (spM ⟨K, cl⟩ 2 f__law_draw)) : CalG P w K mg base 2 "_law_things" (spM ⟨K, cl⟩ 2 f__law_things) := by
  refine ⟨f, fd, ["_law_tape_here", "_law_many"], ?_, g, F.kp, F.bindsN fun _ _ _ _ _ _ us hl => match us, hl with | [_, _], _ => rfl⟩
  refine def_okN (io := [true, false]) (more := 5) (m := m__law_things) F sc__law_things rfl rfl ?_
  intro cdv A outer s H E hr
  exact ⟨_, _, (pss_cons (ps_par (i := 2) (j := 3) rfl sc__law_things.nd rfl rfl (by decide) rfl rfl (pa_cons (pe_g c__law_draw hr (by decide) passL rfl (pa_cons (pv 0) (pa_cons pe_int pa_nil))) (pa_cons (pe_lst pa_nil) pa_nil)) rfl) (pss_cons (ps_for PassesOwn.never rfl (pi_range1 rfl Fc.f_range (pa_cons (pv 1) pa_nil)) (pg_name (i := 4) sc__law_things.nd rfl (.inl rfl)) (pss_cons (ps_set (i := 5) sc__law_things.nd rfl (.inl rfl) (pe_ix (ix_U hr.u1) (pe_lst (pa_cons (pe_op op_addU pe_int (pe_g c__law_draw hr (by decide) passL rfl (pa_cons (pv 0) (pa_cons pe_int pa_nil)))) (pa_cons pe_int (pa_cons (pe_op op_addU pe_int (pe_g c__law_draw hr (by decide) passL rfl (pa_cons (pv 0) (pa_cons pe_int pa_nil)))) (pa_cons (pe_op op_addU pe_int (pe_g c__law_draw hr (by decide) passL rfl (pa_cons (pv 0) (pa_cons (pe_op op_pow pe_int pe_int) pa_nil)))) pa_nil))))) (pv 2) (fun _ _ => rfl))) (pss_cons (ps_set (i := 6) sc__law_things.nd rfl (.inl rfl) (pe_ix (ix_U hr.u1) (pe_lst (pa_cons pe_int (pa_cons pe_int (pa_cons pe_int (pa_cons pe_int (pa_cons pe_int (pa_cons pe_int (pa_cons pe_int (pa_cons (pe_op op_addU pe_int (pe_g c__law_draw hr (by decide) passL rfl (pa_cons (pv 0) (pa_cons pe_int pa_nil)))) pa_nil))))))))) (pe_g c__law_draw hr (by decide) passL rfl (pa_cons (pv 0) (pa_cons pe_int pa_nil))) (fun _ _ => rfl))) (pss_one (ps_expr (pe_bm PySem.F.plainAttrs_list PySem.F.slot_list_append PySem.F.type_list_append mt_append (pv 3) (pa_cons (pe_tup (pa_cons (pv 5) (pa_cons (pe_ix (ix_U hr.u1) (pe_lst (pa_cons (pv 6) (pa_cons (pe_ix (ix_U hr.u1) (pe_lst (pa_cons pe_int (pa_cons pe_int (pa_cons pe_int (pa_cons pe_int pa_nil))))) (pe_g c__law_draw hr (by decide) passL rfl (pa_cons (pv 0) (pa_cons pe_int pa_nil))) (fun _ _ => rfl)) pa_nil))) (pe_callTy call_intU rfl Fc.f_int (by rfl) (pa_cons (pe_cmpR (op_eqU hr.u64) (pv 2) pe_int (nomark _)) pa_nil)) (fun _ _ => rfl)) pa_nil))) pa_nil))))))) (pss_one (ps_ret (pe_callTy call_tuple_of rfl Fc.f_tuple (by rfl) (pa_cons (pv 3) pa_nil)))))), (tsm_seq (tsm_par (tam_val (tem_frz (tem_call rfl (tam_ref (tam_val (tem_lift (tev_c fun _ => .int _)) tam_nil)))) (tam_val (tem_new (ten_lst tav_nil)) tam_nil))) (tsm_seq (tsm_for (tim_lift (tif_rng1 (tav_cons (tev_var (i := 1)) tav_nil))) tgq_name (tsm_seq (tsm_set (tem_op (tem_frz (tem_lst (tam_val (tem_op (tem_lift (tev_c fun _ => .int _)) (tem_frz (tem_call rfl (tam_ref (tam_val (tem_lift (tev_c fun _ => .int _)) tam_nil)))) ov_add) (tam_val (tem_lift (tev_c fun _ => .int _)) (tam_val (tem_op (tem_lift (tev_c fun _ => .int _)) (tem_frz (tem_call rfl (tam_ref (tam_val (tem_lift (tev_c fun _ => .int _)) tam_nil)))) ov_add) (tam_val (tem_op (tem_lift (tev_c fun _ => .int _)) (tem_frz (tem_call rfl (tam_ref (tam_val (tem_lift (tev_op (tev_c fun _ => .int _) (tev_c fun _ => .int _) ov_pow)) tam_nil)))) ov_add) tam_nil)))))) (tem_lift (tev_var (i := 2))) ov_ix)) (tsm_seq (tsm_set (tem_op (tem_frz (tem_lst (tam_val (tem_lift (tev_c fun _ => .int _)) (tam_val (tem_lift (tev_c fun _ => .int _)) (tam_val (tem_lift (tev_c fun _ => .int _)) (tam_val (tem_lift (tev_c fun _ => .int _)) (tam_val (tem_lift (tev_c fun _ => .int _)) (tam_val (tem_lift (tev_c fun _ => .int _)) (tam_val (tem_lift (tev_c fun _ => .int _)) (tam_val (tem_op (tem_lift (tev_c fun _ => .int _)) (tem_frz (tem_call rfl (tam_ref (tam_val (tem_lift (tev_c fun _ => .int _)) tam_nil)))) ov_add) tam_nil)))))))))) (tem_frz (tem_call rfl (tam_ref (tam_val (tem_lift (tev_c fun _ => .int _)) tam_nil)))) ov_ix)) (tsm_drop (tem_mt (tam_val (tem_tup (tam_val (tem_lift (tev_var (i := 5))) (tam_val (tem_op (tem_frz (tem_lst (tam_val (tem_lift (tev_var (i := 6))) (tam_val (tem_op (tem_lift (tev_n (ten_lst (tav_cons (tev_c fun _ => .int _) (tav_cons (tev_c fun _ => .int _) (tav_cons (tev_c fun _ => .int _) (tav_cons (tev_c fun _ => .int _) tav_nil))))))) (tem_frz (tem_call rfl (tam_ref (tam_val (tem_lift (tev_c fun _ => .int _)) tam_nil)))) ov_ix) tam_nil)))) (tem_lift (tev_cb (tav_cons (tev_op (tev_var (i := 2)) (tev_c fun _ => .int _) ov_eq) tav_nil) cb_int)) ov_ix) tam_nil))) tam_nil) lm_append))))) (tsm_ret (tem_lift (tev_cb (tav_cons (tev_var (i := 3)) tav_nil) cb_tuple))))), by decide⟩
abbrev s__law_up : Stmt := topS 17
theorem sc__law_up : FnScope ["_law_number", "_law_border"] ["_law_number", "_law_border"] (defScope s__law_up) := ⟨rfl, rfl, rfl, by decide +kernel, rfl, by decide +kernel, by decide +kernel⟩
noncomputable def m__law_up : MS := (sRet (mLift (qOp oAdd (qVar 0) (qOp oMod (qUn oNeg (qVar 0)) (qVar 1)))))
noncomputable def f__law_up : List O → FR := defN 0 [false, false] m__law_up
theorem ok__law_up {f : Addr} {fd : FuncData} (Fc : Fct mg) (F : FunD K "_law_up" "_law_up" (defArgs s__law_up) (defBody s__law_up) (defScope s__law_up) [] [] f fd) (g : mg "_law_up" = some (.ref f)) : CalG P w K mg base 1 "_law_up" (spM ⟨K, cl⟩ 2 f__law_up) := by
  refine ⟨f, fd, ["_law_number", "_law_border"], ?_, g, F.kp, F.bindsN fun _ _ _ _ _ _ us hl => match us, hl with | [_, _], _ => rfl⟩
  refine def_okN (io := [false, false]) (more := 0) (m := m__law_up) F sc__law_up rfl rfl ?_
  intro cdv A outer s H E hr
  exact ⟨_, _, (pss_one (ps_ret (pe_op op_addU (pv 0) (pe_op op_mod (pe_un un_neg (pv 0)) (pv 1))))), (tsm_ret (tem_lift (tev_op (tev_var (i := 0)) (tev_op (tev_un (tev_var (i := 0)) uv_neg) (tev_var (i := 1)) ov_mod) ov_add))), by decide⟩
abbrev s__law_apart : Stmt := topS 18
theorem sc__law_apart : FnScope ["_law_tape_here", "_law_things_here", "_law_left", "_law_at", "_law_places", "_law_t"] ["_law_tape_here", "_law_things_here"] (defScope s__law_apart) := ⟨rfl, rfl, rfl, by decide +kernel, rfl, by decide +kernel, by decide +kernel⟩
noncomputable def m__law_apart : MS := (sSeq (sPar3 2 3 4 (mCons (mNew (qLrg1 (qCb oLen (qCons (qVar 1) qNil)))) (mCons (mLift (qC (.int 0))) (mCons (mNew (qOp oMulN (qFz (qLst (qCons (qC (.int 0)) qNil))) (qCb oLen (qCons (qVar 1) qNil)))) mNil)))) (sSeq (sWhile (bLift (qB (qOp oNe (qVar 2) (qFz (qLst qNil))))) (sSeq (sSet 5 (mMt 2 fPopAt (mCons (frzM (mCall f__law_draw [some 0, none] (mRef 0 (mCons (mLift (qCb oLen (qCons (qVar 2) qNil))) mNil)))) mNil))) (sSeq (sSetU 4 (qVar 5) (frzM (mCall f__law_up [none, none] (mCons (mOp oAdd (mLift (qVar 3)) (mOp oIx (frzM (mLst (mCons (mLift (qC (.int 0))) (mCons (mLift (qC (.int 0))) (mCons (frzM (mCall f__law_draw [some 0, none] (mRef 0 (mCons (mLift (qC (.int 9))) mNil)))) mNil))))) (frzM (mCall f__law_draw [some 0, none] (mRef 0 (mCons (mLift (qC (.int 3))) mNil)))))) (mCons (mLift (qOp oIx (qOp oIx (qVar 1) (qVar 5)) (qC (.int 1)))) mNil))))) (sSet 3 (mLift (qOp oAdd (qOp oIx (qVar 4) (qVar 5)) (qOp oIx (qOp oIx (qVar 1) (qVar 5)) (qC (.int 0))))))))) (sRet (mMove 4))))
noncomputable def f__law_apart : List O → FR := defN 4 [true, false] m__law_apart
theorem ok__law_apart {f : Addr} {fd : FuncData} (Fc : Fct mg) (F : FunD K "_law_apart" "_law_apart" (defArgs s__law_apart) (defBody s__law_apart) (defScope s__law_apart) [] [] f fd) (g : mg "_law_apart" = some (.ref f)) (c__law_up : CalG P w K mg base 1 "_law_up" (spM ⟨K, cl⟩ 2 f__law_up)) (c__law_draw : CalG P w K mg base 1 "_law_draw" (spM ⟨K, cl⟩ 2 f__law_draw)) : CalG P w K mg base 2 "_law_apart" (spM ⟨K, cl⟩ 2 f__law_apart) := by
  refine ⟨f, fd, ["_law_tape_here", "_law_things_here"], ?_, g, F.kp, F.bindsN fun _ _ _ _ _ _ us hl => match us, hl with | [_, _], _ => rfl⟩
  refine def_okN (io := [true, false]) (more := 4) (m := m__law_apart) F sc__law_apart rfl rfl ?_
  intro cdv A outer s H E hr
  exact ⟨_, _, (pss_cons (ps_par3 (i := 2) (j := 3) (l := 4) rfl sc__law_apart.nd rfl rfl rfl (by decide) (by decide) (by decide) rfl rfl rfl (pa_cons (pe_listRg rfl rfl Fc.f_list (prg_1 rfl Fc.f_range (pe_callB call_lenU rfl Fc.f_len (by rfl) (pa_cons (pv 1) pa_nil)))) (pa_cons pe_int (pa_cons (pe_op op_mulU (pe_lst (pa_cons pe_int pa_nil)) (pe_callB call_lenU rfl Fc.f_len (by rfl) (pa_cons (pv 1) pa_nil))) pa_nil))) rfl) (pss_cons (ps_while PassesOwn.never (pt_cmpR (op_neU hr.u64) (pv 2) (pe_lst pa_nil) (nomark _)) (pss_cons (ps_set (i := 5) sc__law_apart.nd rfl (.inl rfl) (pe_bm PySem.F.plainAttrs_list PySem.F.slot_list_pop PySem.F.type_list_pop mt_popAt (pv 2) (pa_cons (pe_g c__law_draw hr (by decide) passL rfl (pa_cons (pv 0) (pa_cons (pe_callB call_lenU rfl Fc.f_len (by rfl) (pa_cons (pv 2) pa_nil)) pa_nil))) pa_nil))) (pss_cons (ps_asg (pe_g c__law_up hr (by decide) passL rfl (pa_cons (pe_op op_addU (pv 3) (pe_ix (ix_U hr.u1) (pe_lst (pa_cons pe_int (pa_cons pe_int (pa_cons (pe_g c__law_draw hr (by decide) passL rfl (pa_cons (pv 0) (pa_cons pe_int pa_nil))) pa_nil)))) (pe_g c__law_draw hr (by decide) passL rfl (pa_cons (pv 0) (pa_cons pe_int pa_nil))) (fun _ _ => rfl))) (pa_cons (pe_ix (ix_U hr.u1) (pe_ix (ix_U hr.u1) (pv 1) (pv 5) (fun _ _ => rfl)) pe_int (fun _ _ => rfl)) pa_nil))) (pg_sub (pv 4) (pv 5) (set_U hr.u1))) (pss_one (ps_set (i := 3) sc__law_apart.nd rfl (.inl rfl) (pe_op op_addU (pe_ix (ix_U hr.u1) (pv 4) (pv 5) (fun _ _ => rfl)) (pe_ix (ix_U hr.u1) (pe_ix (ix_U hr.u1) (pv 1) (pv 5) (fun _ _ => rfl)) pe_int (fun _ _ => rfl)))))))) (pss_one (ps_ret (pv 4))))), (tsm_seq (tsm_par3 (tam_val (tem_new (ten_lrg1 (tev_cb (tav_cons (tev_var (i := 1)) tav_nil) cb_len))) (tam_val (tem_lift (tev_c fun _ => .int _)) (tam_val (tem_new (ten_op (tev_n (ten_lst (tav_cons (tev_c fun _ => .int _) tav_nil))) (tev_cb (tav_cons (tev_var (i := 1)) tav_nil) cb_len) on_mul)) tam_nil)))) (tsm_seq (tsm_while (ttm_lift (ttv_test (tev_op (tev_var (i := 2)) (tev_n (ten_lst tav_nil)) ov_ne))) (tsm_seq (tsm_set (tem_mt (tam_val (tem_frz (tem_call rfl (tam_ref (tam_val (tem_lift (tev_cb (tav_cons (tev_var (i := 2)) tav_nil) cb_len)) tam_nil)))) tam_nil) lm_popAt)) (tsm_seq (tsm_setU (tem_frz (tem_call rfl (tam_val (tem_op (tem_lift (tev_var (i := 3))) (tem_op (tem_frz (tem_lst (tam_val (tem_lift (tev_c fun _ => .int _)) (tam_val (tem_lift (tev_c fun _ => .int _)) (tam_val (tem_frz (tem_call rfl (tam_ref (tam_val (tem_lift (tev_c fun _ => .int _)) tam_nil)))) tam_nil))))) (tem_frz (tem_call rfl (tam_ref (tam_val (tem_lift (tev_c fun _ => .int _)) tam_nil)))) ov_ix) ov_add) (tam_val (tem_lift (tev_op (tev_op (tev_var (i := 1)) (tev_var (i := 5)) ov_ix) (tev_c fun _ => .int _) ov_ix)) tam_nil)))) (tev_var (i := 5))) (tsm_set (tem_lift (tev_op (tev_op (tev_var (i := 4)) (tev_var (i := 5)) ov_ix) (tev_op (tev_op (tev_var (i := 1)) (tev_var (i := 5)) ov_ix) (tev_c fun _ => .int _) ov_ix) ov_add)))))) (tsm_ret tem_move))), by decide⟩
abbrev s__law_two_rows : Stmt := topS 20
theorem sc__law_two_rows : FnScope ["_law_tape_here", "_law_many", "_law_size", "_law_border", "_law_things_here", "_law_t", "_law_olds", "_law_news", "_law_place", "_law_thing"] ["_law_tape_here"] (defScope s__law_two_rows) := ⟨rfl, rfl, rfl, by decide +kernel, rfl, by decide +kernel, by decide +kernel⟩
noncomputable def m__law_two_rows : MS := (sSeq (sSet 1 (mOp oIx (frzM (mLst (mCons (frzM (mCall f__law_draw [some 0, none] (mRef 0 (mCons (mLift (qC (.int 4))) mNil)))) (mCons (mOp oAdd (mLift (qC (.int 2))) (frzM (mCall f__law_draw [some 0, none] (mRef 0 (mCons (mLift (qC (.int 6))) mNil))))) (mCons (mOp oAdd (mLift (qC (.int 7))) (frzM (mCall f__law_draw [some 0, none] (mRef 0 (mCons (mLift (qC (.int 6))) mNil))))) mNil))))) (frzM (mCall f__law_draw [some 0, none] (mRef 0 (mCons (mLift (qC (.int 3))) mNil)))))) (sSeq (sIf (bTest (mOp oEq (frzM (mCall f__law_draw [some 0, none] (mRef 0 (mCons (mLift (qC (.int 3))) mNil)))) (mLift (qC (.int 0))))) (sSeq (sSet 2 (mOp oIx (mLift (qFz (qLst (qCons (qC (.int 1)) (qCons (qC (.int 2)) (qCons (qC (.int 4)) (qCons (qC (.int 8)) (qCons (qC (.int 12)) qNil)))))))) (frzM (mCall f__law_draw [some 0, none] (mRef 0 (mCons (mLift (qC (.int 5))) mNil)))))) (sSeq (sSet 3 (mLift (qFz (qLc (qItA (qTup (qCons (qC (.int 1)) (qCons (qC (.int 2)) (qCons (qC (.int 3)) (qCons (qC (.int 4)) (qCons (qC (.int 6)) (qCons (qC (.int 8)) (qCons (qC (.int 12)) qNil))))))))) (fName 3) (qB (qOp oEq (qOp oMod (qVar 2) (qVar 3)) (qC (.int 0)))) (qVar 3) [3])))) (sSeq (sSet 4 (mCb oTuple (mCons (frzM (mLc (iLift (qRng1 (qCons (qVar 1) qNil))) (fName 5) bYes (mTup (mCons (mLift (qVar 2)) (mCons (mOp oIx (mLift (qVar 3)) (frzM (mCall f__law_draw [some 0, none] (mRef 0 (mCons (mLift (qCb oLen (qCons (qVar 3) qNil))) mNil))))) mNil))) [5])) mNil))) (sRet (mTup (mCons (mLift (qVar 4)) (mCons (frzM (mCall f__law_slots [some 0, none, none] (mRef 0 (mCons (mLift (qVar 1)) (mCons (mLift (qVar 2)) mNil))))) (mCons (frzM (mCall f__law_slots [some 0, none, none] (mRef 0 (mCons (mLift (qVar 1)) (mCons (mLift (qVar 2)) mNil))))) (mCons (mLift (qC (.bool true))) mNil))))))))) sNext) (sSeq (sSet 4 (frzM (mCall f__law_things [some 0, none] (mRef 0 (mCons (mLift (qVar 1)) mNil))))) (sSeq (sPar 6 7 (mCons (frzM (mCall f__law_apart [some 0, none] (mRef 0 (mCons (mLift (qVar 4)) mNil)))) (mCons (mCall f__law_apart [some 0, none] (mRef 0 (mCons (mLift (qVar 4)) mNil))) mNil))) (sSeq (sIf (bAnd (bLift (qB (qOp oGt (qVar 1) (qC (.int 0))))) (bTest (mOp oEq (frzM (mCall f__law_draw [some 0, none] (mRef 0 (mCons (mLift (qC (.int 4))) mNil)))) (mLift (qC (.int 0)))))) (sSeq (sSet 7 (mNew (qCb oList (qCons (qVar 6) qNil)))) (sSeq (sSet 5 (frzM (mCall f__law_draw [some 0, none] (mRef 0 (mCons (mLift (qVar 1)) mNil))))) (sSetU 7 (qVar 5) (mLift (qCall (qOf f__law_up) (qCons (qCb oMax1 (qCons (qFz (qLc (qZipV (qCons (qVar 6) (qCons (qVar 4) qNil))) (fTup 2 (fCons (fName 8) (fCons (fName 9) fNil))) qYes (qOp oAdd (qVar 8) (qOp oIx (qVar 9) (qC (.int 0)))) [8, 9])) qNil)) (qCons (qOp oIx (qOp oIx (qVar 4) (qVar 5)) (qC (.int 1))) qNil))))))) sNext) (sRet (mTup (mCons (mLift (qVar 4)) (mCons (mLift (qVar 6)) (mCons (mGz 7 (mLift (qVar 7))) (mCons (mLift (qC (.bool false))) mNil)))))))))))
noncomputable def f__law_two_rows : List O → FR := defN 9 [true] m__law_two_rows
theorem ok__law_two_rows {f : Addr} {fd : FuncData} (Fc : Fct mg) (F : FunD K "_law_two_rows" "_law_two_rows" (defArgs s__law_two_rows) (defBody s__law_two_rows) (defScope s__law_two_rows) [] [] f fd) (g : mg "_law_two_rows" = some (.ref f)) (c__law_draw : CalG P w K mg base 1 "_law_draw" (spM ⟨K, cl⟩ 2 f__law_draw)) (c__law_slots : CalG P w K mg base 2 "_law_slots" (spM ⟨K, cl⟩ 3 f__law_slots)) (c__law_things : CalG P w K mg base 2 "_law_things" (spM ⟨K, cl⟩ 2 f__law_things)) (c__law_apart : CalG P w K mg base 2 "_law_apart" (spM ⟨K, cl⟩ 2 f__law_apart)) (c__law_up : CalG P w K mg base 1 "_law_up" (spM ⟨K, cl⟩ 2 f__law_up)) : CalG P w K mg base 3 "_law_two_rows" (spM ⟨K, cl⟩ 1 f__law_two_rows) := by
  refine ⟨f, fd, ["_law_tape_here"], ?_, g, F.kp, F.bindsN fun _ _ _ _ _ _ us hl => match us, hl with | [_], _ => rfl⟩
  refine def_okN (io := [true]) (more := 9) (m := m__law_two_rows) F sc__law_two_rows rfl rfl ?_
  intro cdv A outer s H E hr
  exact ⟨_, _, (pss_cons (ps_set (i := 1) sc__law_two_rows.nd rfl (.inl rfl) (pe_ix (ix_U hr.u1) (pe_lst (pa_cons (pe_g c__law_draw hr (by decide) passL rfl (pa_cons (pv 0) (pa_cons pe_int pa_nil))) (pa_cons (pe_op op_addU pe_int (pe_g c__law_draw hr (by decide) passL rfl (pa_cons (pv 0) (pa_cons pe_int pa_nil)))) (pa_cons (pe_op op_addU pe_int (pe_g c__law_draw hr (by decide) passL rfl (pa_cons (pv 0) (pa_cons pe_int pa_nil)))) pa_nil)))) (pe_g c__law_draw hr (by decide) passL rfl (pa_cons (pv 0) (pa_cons pe_int pa_nil))) (fun _ _ => rfl))) (pss_cons (ps_if (pt_cmpR (op_eqU hr.u64) (pe_g c__law_draw hr (by decide) passL rfl (pa_cons (pv 0) (pa_cons pe_int pa_nil))) pe_int (nomark _)) (pss_cons (ps_set (i := 2) sc__law_two_rows.nd rfl (.inr rfl) (pe_ix (ix_U hr.u1) (pe_lst (pa_cons pe_int (pa_cons pe_int (pa_cons pe_int (pa_cons pe_int (pa_cons pe_int pa_nil)))))) (pe_g c__law_draw hr (by decide) passL rfl (pa_cons (pv 0) (pa_cons pe_int pa_nil))) (fun _ _ => rfl))) (pss_cons (ps_set (i := 3) sc__law_two_rows.nd rfl (.inr rfl) (pe_lc (own := [("_law_border", 3)]) rfl sc__law_two_rows.nd (pi_any (pe_tup (pa_cons pe_int (pa_cons pe_int (pa_cons pe_int (pa_cons pe_int (pa_cons pe_int (pa_cons pe_int (pa_cons pe_int pa_nil))))))))) (blkOk_by (N := ["_law_tape_here", "_law_many", "_law_size", "_law_border", "_law_things_here", "_law_t", "_law_olds", "_law_news", "_law_place", "_law_thing"]) (sc := defScope s__law_two_rows) (own := [("_law_border", 3)]) (by decide +kernel)) (fun _ _ _ _ _ => (pg_name (i := 3) sc__law_two_rows.nd rfl (.inl rfl))) (fun _ _ _ _ _ => pts_one (pt_cmpR (op_eqU hr.u64) (pe_op op_mod (pv 2) (pv 3)) pe_int (nomark _))) (fun _ _ _ _ _ => (pv 3)))) (pss_cons (ps_set (i := 4) sc__law_two_rows.nd rfl (.inl rfl) (pe_callTy call_tuple_of rfl Fc.f_tuple (by rfl) (pa_cons (pe_lc (own := [("_law_t", 5)]) rfl sc__law_two_rows.nd (pi_range1 rfl Fc.f_range (pa_cons (pv 1) pa_nil)) (blkOk_by (N := ["_law_tape_here", "_law_many", "_law_size", "_law_border", "_law_things_here", "_law_t", "_law_olds", "_law_news", "_law_place", "_law_thing"]) (sc := defScope s__law_two_rows) (own := [("_law_t", 5)]) (by decide +kernel)) (fun _ _ _ _ _ => (pg_name (i := 5) sc__law_two_rows.nd rfl (.inl rfl))) (fun _ _ _ _ _ => pts_nil) (fun _ _ _ _ _ => (pe_tup (pa_cons (pv 2) (pa_cons (pe_ix (ix_U hr.u1) (pv 3) (pe_g c__law_draw hr (by decide) passL rfl (pa_cons (pv 0) (pa_cons (pe_callB call_lenU rfl Fc.f_len (by rfl) (pa_cons (pv 3) pa_nil)) pa_nil))) (fun _ _ => rfl)) pa_nil))))) pa_nil))) (pss_one (ps_ret (pe_tup (pa_cons (pv 4) (pa_cons (pe_g c__law_slots hr (by decide) passL rfl (pa_cons (pv 0) (pa_cons (pv 1) (pa_cons (pv 2) pa_nil)))) (pa_cons (pe_g c__law_slots hr (by decide) passL rfl (pa_cons (pv 0) (pa_cons (pv 1) (pa_cons (pv 2) pa_nil)))) (pa_cons pe_bl pa_nil)))))))))) pss_nil) (pss_cons (ps_set (i := 4) sc__law_two_rows.nd rfl (.inl rfl) (pe_g c__law_things hr (by decide) passL rfl (pa_cons (pv 0) (pa_cons (pv 1) pa_nil)))) (pss_cons (ps_par (i := 6) (j := 7) rfl sc__law_two_rows.nd rfl rfl (by decide) rfl rfl (pa_cons (pe_g c__law_apart hr (by decide) passL rfl (pa_cons (pv 0) (pa_cons (pv 4) pa_nil))) (pa_cons (pe_g c__law_apart hr (by decide) passL rfl (pa_cons (pv 0) (pa_cons (pv 4) pa_nil))) pa_nil)) rfl) (pss_cons (ps_if (PW.pt (pw_and (pt_cmpR op_gt (pv 1) pe_int (nomark _)) (pw_and1 (pt_cmpR (op_eqU hr.u64) (pe_g c__law_draw hr (by decide) passL rfl (pa_cons (pv 0) (pa_cons pe_int pa_nil))) pe_int (nomark _))))) (pss_cons (ps_set (i := 7) sc__law_two_rows.nd rfl (.inl rfl) (pe_callTy call_list_of rfl Fc.f_list (by rfl) (pa_cons (pv 6) pa_nil))) (pss_cons (ps_set (i := 5) sc__law_two_rows.nd rfl (.inl rfl) (pe_g c__law_draw hr (by decide) passL rfl (pa_cons (pv 0) (pa_cons (pv 1) pa_nil)))) (pss_one (ps_asg (pe_g c__law_up.quiet hr (by decide) passL rfl (pa_cons (pe_callB (cr_max rfl) rfl Fc.f_max (by rfl) (pa_cons (pe_lc (own := [("_law_place", 8), ("_law_thing", 9)]) rfl sc__law_two_rows.nd (pi_zipM rfl Fc.f_zip (pa_cons (pv 6) (pa_cons (pv 4) pa_nil))) (blkOk_by (N := ["_law_tape_here", "_law_many", "_law_size", "_law_border", "_law_things_here", "_law_t", "_law_olds", "_law_news", "_law_place", "_law_thing"]) (sc := defScope s__law_two_rows) (own := [("_law_place", 8), ("_law_thing", 9)]) (by decide +kernel)) (fun _ _ _ _ _ => (pg_tup rfl (pgs_cons (pg_name (i := 8) sc__law_two_rows.nd rfl (.inl rfl)) (pgs_cons (pg_name (i := 9) sc__law_two_rows.nd rfl (.inl rfl)) pgs_nil)))) (fun _ _ _ _ _ => pts_nil) (fun _ _ _ _ _ => (pe_op op_addU (pv 8) (pe_ix (ix_U hr.u1) (pv 9) pe_int (fun _ _ => rfl))))) pa_nil)) (pa_cons (pe_ix (ix_U hr.u1) (pe_ix (ix_U hr.u1) (pv 4) (pv 5) (fun _ _ => rfl)) pe_int (fun _ _ => rfl)) pa_nil))) (pg_sub (pv 7) (pv 5) (set_U hr.u1)))))) pss_nil) (pss_one (ps_ret (pe_tup (pa_cons (pv 4) (pa_cons (pv 6) (pa_cons (pv 7) (pa_cons pe_bl pa_nil)))))))))))), (tsm_seq (tsm_set (tem_op (tem_frz (tem_lst (tam_val (tem_frz (tem_call rfl (tam_ref (tam_val (tem_lift (tev_c fun _ => .int _)) tam_nil)))) (tam_val (tem_op (tem_lift (tev_c fun _ => .int _)) (tem_frz (tem_call rfl (tam_ref (tam_val (tem_lift (tev_c fun _ => .int _)) tam_nil)))) ov_add) (tam_val (tem_op (tem_lift (tev_c fun _ => .int _)) (tem_frz (tem_call rfl (tam_ref (tam_val (tem_lift (tev_c fun _ => .int _)) tam_nil)))) ov_add) tam_nil))))) (tem_frz (tem_call rfl (tam_ref (tam_val (tem_lift (tev_c fun _ => .int _)) tam_nil)))) ov_ix)) (tsm_seq (tsm_if (ttm_test (tem_op (tem_frz (tem_call rfl (tam_ref (tam_val (tem_lift (tev_c fun _ => .int _)) tam_nil)))) (tem_lift (tev_c fun _ => .int _)) ov_eq)) (tsm_seq (tsm_set (tem_op (tem_lift (tev_n (ten_lst (tav_cons (tev_c fun _ => .int _) (tav_cons (tev_c fun _ => .int _) (tav_cons (tev_c fun _ => .int _) (tav_cons (tev_c fun _ => .int _) (tav_cons (tev_c fun _ => .int _) tav_nil)))))))) (tem_frz (tem_call rfl (tam_ref (tam_val (tem_lift (tev_c fun _ => .int _)) tam_nil)))) ov_ix)) (tsm_seq (tsm_set (tem_lift (tev_n (ten_lc (tiv_any (tev_tup (tav_cons (tev_c fun _ => .int _) (tav_cons (tev_c fun _ => .int _) (tav_cons (tev_c fun _ => .int _) (tav_cons (tev_c fun _ => .int _) (tav_cons (tev_c fun _ => .int _) (tav_cons (tev_c fun _ => .int _) (tav_cons (tev_c fun _ => .int _) tav_nil))))))))) tgq_name (by decide) (ttv_test (tev_op (tev_op (tev_var (i := 2)) (tev_var (i := 3)) ov_mod) (tev_c fun _ => .int _) ov_eq)) (tev_var (i := 3)))))) (tsm_seq (tsm_set (tem_cb (tam_val (tem_frz (tem_lc (tim_lift (tif_rng1 (tav_cons (tev_var (i := 1)) tav_nil))) tgq_name (by decide) ttm_yes (tem_tup (tam_val (tem_lift (tev_var (i := 2))) (tam_val (tem_op (tem_lift (tev_var (i := 3))) (tem_frz (tem_call rfl (tam_ref (tam_val (tem_lift (tev_cb (tav_cons (tev_var (i := 3)) tav_nil) cb_len)) tam_nil)))) ov_ix) tam_nil))))) tam_nil) cb_tuple)) (tsm_ret (tem_tup (tam_val (tem_lift (tev_var (i := 4))) (tam_val (tem_frz (tem_call rfl (tam_ref (tam_val (tem_lift (tev_var (i := 1))) (tam_val (tem_lift (tev_var (i := 2))) tam_nil))))) (tam_val (tem_frz (tem_call rfl (tam_ref (tam_val (tem_lift (tev_var (i := 1))) (tam_val (tem_lift (tev_var (i := 2))) tam_nil))))) (tam_val (tem_lift (tev_c fun _ => .bl _)) tam_nil))))))))) tsm_next) (tsm_seq (tsm_set (tem_frz (tem_call rfl (tam_ref (tam_val (tem_lift (tev_var (i := 1))) tam_nil))))) (tsm_seq (tsm_par (tam_val (tem_frz (tem_call rfl (tam_ref (tam_val (tem_lift (tev_var (i := 4))) tam_nil)))) (tam_val (tem_call rfl (tam_ref (tam_val (tem_lift (tev_var (i := 4))) tam_nil))) tam_nil))) (tsm_seq (tsm_if (ttm_and (ttm_lift (ttv_test (tev_op (tev_var (i := 1)) (tev_c fun _ => .int _) ov_gt))) (ttm_test (tem_op (tem_frz (tem_call rfl (tam_ref (tam_val (tem_lift (tev_c fun _ => .int _)) tam_nil)))) (tem_lift (tev_c fun _ => .int _)) ov_eq))) (tsm_seq (tsm_set (tem_new (ten_cb (tav_cons (tev_var (i := 6)) tav_nil) cn_list))) (tsm_seq (tsm_set (tem_frz (tem_call rfl (tam_ref (tam_val (tem_lift (tev_var (i := 1))) tam_nil))))) (tsm_setU (tem_lift (tev_call (qlen_cons (qlen_cons qlen_nil)) (tav_cons (tev_cb (tav_cons (tev_n (ten_lc (tiv_zip (tav_cons (tev_var (i := 6)) (tav_cons (tev_var (i := 4)) tav_nil))) (tgq_tup (tgsq_cons tgq_name (tgsq_cons tgq_name tgsq_nil))) (by decide) ttv_yes (tev_op (tev_var (i := 8)) (tev_op (tev_var (i := 9)) (tev_c fun _ => .int _) ov_ix) ov_add))) tav_nil) cb_max1) (tav_cons (tev_op (tev_op (tev_var (i := 4)) (tev_var (i := 5)) ov_ix) (tev_c fun _ => .int _) ov_ix) tav_nil)))) (tev_var (i := 5))))) tsm_next) (tsm_ret (tem_tup (tam_val (tem_lift (tev_var (i := 4))) (tam_val (tem_lift (tev_var (i := 6))) (tam_val (tem_gz (tem_lift (tev_var (i := 7)))) (tam_val (tem_lift (tev_c fun _ => .bl _)) tam_nil))))))))))), by decide⟩
abbrev s_end_of : Stmt := topS 3
theorem sc_end_of : FnScope ["thing", "place"] ["thing", "place"] (defScope s_end_of) := ⟨rfl, rfl, rfl, by decide +kernel, rfl, by decide +kernel, by decide +kernel⟩
noncomputable def m_end_of : MS := (sRet (mLift (qOp oAdd (qVar 1) (qOp oIx (qVar 0) (qC (.int 0))))))
noncomputable def f_end_of : List O → FR := defN 0 [false, false] m_end_of
theorem ok_end_of {f : Addr} {fd : FuncData} (Fc : Fct mg) (F : FunD K "end_of" "end_of" (defArgs s_end_of) (defBody s_end_of) (defScope s_end_of) [] [] f fd) (g : mg "end_of" = some (.ref f)) : CalG P w K mg base 1 "end_of" (spM ⟨K, cl⟩ 2 f_end_of) := by
  refine ⟨f, fd, ["thing", "place"], ?_, g, F.kp, F.bindsN fun _ _ _ _ _ _ us hl => match us, hl with | [_, _], _ => rfl⟩
  refine def_okN (io := [false, false]) (more := 0) (m := m_end_of) F sc_end_of rfl rfl ?_
  intro cdv A outer s H E hr
  exact ⟨_, _, (pss_one (ps_ret (pe_op op_addU (pv 1) (pe_ix (ix_U hr.u1) (pv 0) pe_int (fun _ _ => rfl))))), (tsm_ret (tem_lift (tev_op (tev_var (i := 1)) (tev_op (tev_var (i := 0)) (tev_c fun _ => .int _) ov_ix) ov_add))), by decide⟩
abbrev s_lie_over : Stmt := topS 4
theorem sc_lie_over : FnScope ["thing", "place", "other", "there"] ["thing", "place", "other", "there"] (defScope s_lie_over) := ⟨rfl, rfl, rfl, by decide +kernel, rfl, by decide +kernel, by decide +kernel⟩
noncomputable def m_lie_over : MS := (sRet (mLift (qAndV (qOp oLt (qVar 1) (qCall (qOf f_end_of) (qCons (qVar 2) (qCons (qVar 3) qNil)))) (qOp oLt (qVar 3) (qCall (qOf f_end_of) (qCons (qVar 0) (qCons (qVar 1) qNil)))))))
noncomputable def f_lie_over : List O → FR := defN 0 [false, false, false, false] m_lie_over
theorem ok_lie_over {f : Addr} {fd : FuncData} (Fc : Fct mg) (F : FunD K "lie_over" "lie_over" (defArgs s_lie_over) (defBody s_lie_over) (defScope s_lie_over) [] [] f fd) (g : mg "lie_over" = some (.ref f)) (c_end_of : CalG P w K mg base 1 "end_of" (spM ⟨K, cl⟩ 2 f_end_of)) : CalG P w K mg base 2 "lie_over" (spM ⟨K, cl⟩ 4 f_lie_over) := by
  refine ⟨f, fd, ["thing", "place", "other", "there"], ?_, g, F.kp, F.bindsN fun _ _ _ _ _ _ us hl => match us, hl with | [_, _, _, _], _ => rfl⟩
  refine def_okN (io := [false, false, false, false]) (more := 0) (m := m_lie_over) F sc_lie_over rfl rfl ?_
  intro cdv A outer s H E hr
  exact ⟨_, _, (pss_one (ps_ret (pe_and (pe_cmpR op_lt (pv 1) (pe_g c_end_of.quiet hr (by decide) passL rfl (pa_cons (pv 2) (pa_cons (pv 3) pa_nil))) (nomark _)) (pe_one (pe_cmpR op_lt (pv 3) (pe_g c_end_of.quiet hr (by decide) passL rfl (pa_cons (pv 0) (pa_cons (pv 1) pa_nil))) (nomark _)))))), (tsm_ret (tem_lift (tev_andV (tev_op (tev_var (i := 1)) (tev_call (qlen_cons (qlen_cons qlen_nil)) (tav_cons (tev_var (i := 2)) (tav_cons (tev_var (i := 3)) tav_nil))) ov_lt) (tev_op (tev_var (i := 3)) (tev_call (qlen_cons (qlen_cons qlen_nil)) (tav_cons (tev_var (i := 0)) (tav_cons (tev_var (i := 1)) tav_nil))) ov_lt)))), by decide⟩
abbrev s_is_free : Stmt := topS 7
theorem sc_is_free : FnScope ["things", "places", "t", "place", "other", "there"] ["things", "places", "t", "place"] (defScope s_is_free) := ⟨rfl, rfl, rfl, by decide +kernel, rfl, by decide +kernel, by decide +kernel⟩
noncomputable def m_is_free : MS := (sSeq (sFor (iLift (qEnum (qCons (qVar 1) qNil))) (fTup 2 (fCons (fName 4) (fCons (fName 5) fNil))) (sIf (bLift (qAnd (qB (qOp oNe (qVar 4) (qVar 2))) (qB (qCall (qOf f_lie_over) (qCons (qOp oIx (qVar 0) (qVar 2)) (qCons (qVar 3) (qCons (qOp oIx (qVar 0) (qVar 4)) (qCons (qVar 5) qNil)))))))) (sRet (mLift (qC (.bool false)))) sNext)) (sRet (mLift (qC (.bool true)))))
noncomputable def f_is_free : List O → FR := defN 2 [false, false, false, false] m_is_free
theorem ok_is_free {f : Addr} {fd : FuncData} (Fc : Fct mg) (F : FunD K "is_free" "is_free" (defArgs s_is_free) (defBody s_is_free) (defScope s_is_free) [] [] f fd) (g : mg "is_free" = some (.ref f)) (c_lie_over : CalG P w K mg base 2 "lie_over" (spM ⟨K, cl⟩ 4 f_lie_over)) : CalG P w K mg base 3 "is_free" (spM ⟨K, cl⟩ 4 f_is_free) := by
  refine ⟨f, fd, ["things", "places", "t", "place"], ?_, g, F.kp, F.bindsN fun _ _ _ _ _ _ us hl => match us, hl with | [_, _, _, _], _ => rfl⟩
  refine def_okN (io := [false, false, false, false]) (more := 2) (m := m_is_free) F sc_is_free rfl rfl ?_
  intro cdv A outer s H E hr
  exact ⟨_, _, (pss_cons (ps_for PassesOwn.never rfl (pi_enum rfl Fc.f_enumerate (pa_cons (pv 1) pa_nil)) (pg_tup rfl (pgs_cons (pg_name (i := 4) sc_is_free.nd rfl (.inl rfl)) (pgs_cons (pg_name (i := 5) sc_is_free.nd rfl (.inl rfl)) pgs_nil))) (pss_one (ps_if (PW.pt (pw_and (pt_cmpR (op_neU hr.u64) (pv 4) (pv 2) (nomark _)) (pw_and1 (pt_val (pe_g c_lie_over.quiet hr (by decide) passL rfl (pa_cons (pe_ix (ix_U hr.u1) (pv 0) (pv 2) (fun _ _ => rfl)) (pa_cons (pv 3) (pa_cons (pe_ix (ix_U hr.u1) (pv 0) (pv 4) (fun _ _ => rfl)) (pa_cons (pv 5) pa_nil))))))))) (pss_one (ps_ret pe_bl)) pss_nil))) (pss_one (ps_ret pe_bl))), (tsm_seq (tsm_for (tim_lift (tif_enum (tav_cons (tev_var (i := 1)) tav_nil))) (tgq_tup (tgsq_cons tgq_name (tgsq_cons tgq_name tgsq_nil))) (tsm_if (ttm_lift (ttv_and (ttv_test (tev_op (tev_var (i := 4)) (tev_var (i := 2)) ov_ne)) (ttv_B (tev_call (qlen_cons (qlen_cons (qlen_cons (qlen_cons qlen_nil)))) (tav_cons (tev_op (tev_var (i := 0)) (tev_var (i := 2)) ov_ix) (tav_cons (tev_var (i := 3)) (tav_cons (tev_op (tev_var (i := 0)) (tev_var (i := 4)) ov_ix) (tav_cons (tev_var (i := 5)) tav_nil)))))))) (tsm_ret (tem_lift (tev_c fun _ => .bl _))) tsm_next)) (tsm_ret (tem_lift (tev_c fun _ => .bl _)))), by decide⟩
abbrev s_height : Stmt := topS 5
theorem sc_height : FnScope ["things", "places", "thing", "place"] ["things", "places"] (defScope s_height) := ⟨rfl, rfl, rfl, by decide +kernel, rfl, by decide +kernel, by decide +kernel⟩
noncomputable def m_height : MS := (sRet (mLift (qCbK oMaxD (qCons (qFz (qLc (qZipV (qCons (qVar 0) (qCons (qVar 1) qNil))) (fTup 2 (fCons (fName 2) (fCons (fName 3) fNil))) qYes (qCall (qOf f_end_of) (qCons (qVar 2) (qCons (qVar 3) qNil))) [2, 3])) qNil) (qCons (qC (.int 0)) qNil))))
noncomputable def f_height : List O → FR := defN 2 [false, false] m_height
theorem ok_height {f : Addr} {fd : FuncData} (Fc : Fct mg) (F : FunD K "height" "height" (defArgs s_height) (defBody s_height) (defScope s_height) [] [] f fd) (g : mg "height" = some (.ref f)) (c_end_of : CalG P w K mg base 1 "end_of" (spM ⟨K, cl⟩ 2 f_end_of)) : CalG P w K mg base 2 "height" (spM ⟨K, cl⟩ 2 f_height) := by
  refine ⟨f, fd, ["things", "places"], ?_, g, F.kp, F.bindsN fun _ _ _ _ _ _ us hl => match us, hl with | [_, _], _ => rfl⟩
  refine def_okN (io := [false, false]) (more := 2) (m := m_height) F sc_height rfl rfl ?_
  intro cdv A outer s H E hr
  exact ⟨_, _, (pss_one (ps_ret (pe_callBK (cr_maxD rfl hr.u1) rfl Fc.f_max (by rfl) (pa_cons (pe_lc (own := [("thing", 2), ("place", 3)]) rfl sc_height.nd (pi_zipM rfl Fc.f_zip (pa_cons (pv 0) (pa_cons (pv 1) pa_nil))) (blkOk_by (N := ["things", "places", "thing", "place"]) (sc := defScope s_height) (own := [("thing", 2), ("place", 3)]) (by decide +kernel)) (fun _ _ _ _ _ => (pg_tup rfl (pgs_cons (pg_name (i := 2) sc_height.nd rfl (.inl rfl)) (pgs_cons (pg_name (i := 3) sc_height.nd rfl (.inl rfl)) pgs_nil)))) (fun _ _ _ _ _ => pts_nil) (fun _ _ _ _ _ => (pe_g c_end_of.quiet hr (by decide) passL rfl (pa_cons (pv 2) (pa_cons (pv 3) pa_nil))))) pa_nil) (pk_cons pe_int pk_nil)))), (tsm_ret (tem_lift (tev_maxD (tav_cons (tev_n (ten_lc (tiv_zip (tav_cons (tev_var (i := 0)) (tav_cons (tev_var (i := 1)) tav_nil))) (tgq_tup (tgsq_cons tgq_name (tgsq_cons tgq_name tgsq_nil))) (by decide) ttv_yes (tev_call (qlen_cons (qlen_cons qlen_nil)) (tav_cons (tev_var (i := 2)) (tav_cons (tev_var (i := 3)) tav_nil))))) tav_nil) (tav_cons (tev_c fun _ => .int _) tav_nil)))), by decide⟩
abbrev s_rounded : Stmt := topS 2
theorem sc_rounded : FnScope ["number", "border"] ["number", "border"] (defScope s_rounded) := ⟨rfl, rfl, rfl, by decide +kernel, rfl, by decide +kernel, by decide +kernel⟩
noncomputable def m_rounded : MS := (sRet (mLift (qOp oMul (qOp oDiv (qOp oSub (qOp oAdd (qVar 0) (qVar 1)) (qC (.int 1))) (qVar 1)) (qVar 1))))
noncomputable def f_rounded : List O → FR := defN 0 [false, false] m_rounded
theorem ok_rounded {f : Addr} {fd : FuncData} (Fc : Fct mg) (F : FunD K "rounded" "rounded" (defArgs s_rounded) (defBody s_rounded) (defScope s_rounded) [] [] f fd) (g : mg "rounded" = some (.ref f)) : CalG P w K mg base 1 "rounded" (spM ⟨K, cl⟩ 2 f_rounded) := by
  refine ⟨f, fd, ["number", "border"], ?_, g, F.kp, F.bindsN fun _ _ _ _ _ _ us hl => match us, hl with | [_, _], _ => rfl⟩
  refine def_okN (io := [false, false]) (more := 0) (m := m_rounded) F sc_rounded rfl rfl ?_
  intro cdv A outer s H E hr
  exact ⟨_, _, (pss_one (ps_ret (pe_op op_mulU (pe_op op_fdivW (pe_op op_sub (pe_op op_addU (pv 0) (pv 1)) pe_int) (pv 1)) (pv 1)))), (tsm_ret (tem_lift (tev_op (tev_op (tev_op (tev_op (tev_var (i := 0)) (tev_var (i := 1)) ov_add) (tev_c fun _ => .int _) ov_sub) (tev_var (i := 1)) ov_div) (tev_var (i := 1)) ov_mul))), by decide⟩
abbrev s_next_move : Stmt := topS 8
theorem sc_next_move : FnScope ["things", "places", "news", "aside", "waiting", "t", "above"] ["things", "places", "news", "aside"] (defScope s_next_move) := ⟨rfl, rfl, rfl, by decide +kernel, rfl, by decide +kernel, by decide +kernel⟩
noncomputable def m_next_move : MS := (sSeq (sSet 4 (mLift (qFz (qLc (qRng1 (qCons (qCb oLen (qCons (qVar 0) qNil)) qNil)) (fName 5) (qB (qOp oNe (qOp oIx (qVar 1) (qVar 5)) (qOp oIx (qVar 2) (qVar 5)))) (qVar 5) [5])))) (sSeq (sFor (iLift (qIfA (qVar 4))) (fName 5) (sIf (bLift (qB (qCall (qOf f_is_free) (qCons (qVar 0) (qCons (qVar 1) (qCons (qVar 5) (qCons (qOp oIx (qVar 2) (qVar 5)) qNil))))))) (sRet (mLift (qTup (qCons (qVar 5) (qCons (qOp oIx (qVar 2) (qVar 5)) qNil))))) sNext)) (sSeq (sSet 5 (mLift (qOp oIx (qFz (qLc (qItA (qVar 4)) (fName 5) (qB (qOp oNin (qVar 5) (qVar 3))) (qVar 5) [5])) (qC (.int 0))))) (sSeq (sSet 6 (mLift (qCb oMax2 (qCons (qCall (qOf f_height) (qCons (qVar 0) (qCons (qVar 1) qNil))) (qCons (qCall (qOf f_height) (qCons (qVar 0) (qCons (qVar 2) qNil))) qNil))))) (sRet (mLift (qTup (qCons (qVar 5) (qCons (qCall (qOf f_rounded) (qCons (qVar 6) (qCons (qOp oIx (qOp oIx (qVar 0) (qVar 5)) (qC (.int 1))) qNil))) qNil)))))))))
noncomputable def f_next_move : List O → FR := defN 3 [false, false, false, false] m_next_move
theorem ok_next_move {f : Addr} {fd : FuncData} (Fc : Fct mg) (F : FunD K "next_move" "next_move" (defArgs s_next_move) (defBody s_next_move) (defScope s_next_move) [] [] f fd) (g : mg "next_move" = some (.ref f)) (c_is_free : CalG P w K mg base 3 "is_free" (spM ⟨K, cl⟩ 4 f_is_free)) (c_height : CalG P w K mg base 2 "height" (spM ⟨K, cl⟩ 2 f_height)) (c_rounded : CalG P w K mg base 1 "rounded" (spM ⟨K, cl⟩ 2 f_rounded)) : CalG P w K mg base 4 "next_move" (spM ⟨K, cl⟩ 4 f_next_move) := by
  refine ⟨f, fd, ["things", "places", "news", "aside"], ?_, g, F.kp, F.bindsN fun _ _ _ _ _ _ us hl => match us, hl with | [_, _, _, _], _ => rfl⟩
  refine def_okN (io := [false, false, false, false]) (more := 3) (m := m_next_move) F sc_next_move rfl rfl ?_
  intro cdv A outer s H E hr
  exact ⟨_, _, (pss_cons (ps_setLc (i := 4) (own := [("t", 5)]) rfl sc_next_move.nd rfl rfl (sw_true rfl rfl rfl (by decide +kernel)) (pi_range1 rfl Fc.f_range (pa_cons (pe_callB call_lenU rfl Fc.f_len (by rfl) (pa_cons (pv 0) pa_nil)) pa_nil)) (blkOk_by (N := ["things", "places", "news", "aside", "waiting", "t", "above"]) (sc := defScope s_next_move) (own := [("t", 5)]) (by decide +kernel)) (fun _ _ _ _ _ => (pg_name (i := 5) sc_next_move.nd rfl (.inl rfl))) (fun _ _ _ _ _ => pts_one (pt_cmpR (op_neU hr.u64) (pe_ix (ix_U hr.u1) (pv 1) (pv 5) (fun _ _ => rfl)) (pe_ix (ix_U hr.u1) (pv 2) (pv 5) (fun _ _ => rfl)) (nomark _))) (fun _ _ _ _ _ => (pv 5))) (pss_cons (ps_for PassesOwn.never rfl (pi_any (pv 4)) (pg_name (i := 5) sc_next_move.nd rfl (.inl rfl)) (pss_one (ps_if (pt_val (pe_g c_is_free.quiet hr (by decide) passL rfl (pa_cons (pv 0) (pa_cons (pv 1) (pa_cons (pv 5) (pa_cons (pe_ix (ix_U hr.u1) (pv 2) (pv 5) (fun _ _ => rfl)) pa_nil)))))) (pss_one (ps_ret (pe_tup (pa_cons (pv 5) (pa_cons (pe_ix (ix_U hr.u1) (pv 2) (pv 5) (fun _ _ => rfl)) pa_nil))))) pss_nil))) (pss_cons (ps_set (i := 5) sc_next_move.nd rfl (.inl rfl) (pe_ix (ix_U hr.u1) (pe_lc (own := [("t", 5)]) rfl sc_next_move.nd (pi_any (pv 4)) (blkOk_by (N := ["things", "places", "news", "aside", "waiting", "t", "above"]) (sc := defScope s_next_move) (own := [("t", 5)]) (by decide +kernel)) (fun _ _ _ _ _ => (pg_name (i := 5) sc_next_move.nd rfl (.inl rfl))) (fun _ _ _ _ _ => pts_one (pt_cmpR (op_ninU hr.u65) (pv 5) (pv 3) (by with_unfolding_all rfl))) (fun _ _ _ _ _ => (pv 5))) pe_int (fun _ _ => rfl))) (pss_cons (ps_set (i := 6) sc_next_move.nd rfl (.inl rfl) (pe_callB (call_max2 rfl) rfl Fc.f_max (by rfl) (pa_cons (pe_g c_height.quiet hr (by decide) passL rfl (pa_cons (pv 0) (pa_cons (pv 1) pa_nil))) (pa_cons (pe_g c_height.quiet hr (by decide) passL rfl (pa_cons (pv 0) (pa_cons (pv 2) pa_nil))) pa_nil)))) (pss_one (ps_ret (pe_tup (pa_cons (pv 5) (pa_cons (pe_g c_rounded.quiet hr (by decide) passL rfl (pa_cons (pv 6) (pa_cons (pe_ix (ix_U hr.u1) (pe_ix (ix_U hr.u1) (pv 0) (pv 5) (fun _ _ => rfl)) pe_int (fun _ _ => rfl)) pa_nil))) pa_nil))))))))), (tsm_seq (tsm_set (tem_lift (tev_n (ten_lc (TIf.v (tif_rng1 (tav_cons (tev_cb (tav_cons (tev_var (i := 0)) tav_nil) cb_len) tav_nil))) tgq_name (by decide) (ttv_test (tev_op (tev_op (tev_var (i := 1)) (tev_var (i := 5)) ov_ix) (tev_op (tev_var (i := 2)) (tev_var (i := 5)) ov_ix) ov_ne)) (tev_var (i := 5)))))) (tsm_seq (tsm_for (tim_lift (tif_any (tev_var (i := 4)))) tgq_name (tsm_if (ttm_lift (ttv_B (tev_call (qlen_cons (qlen_cons (qlen_cons (qlen_cons qlen_nil)))) (tav_cons (tev_var (i := 0)) (tav_cons (tev_var (i := 1)) (tav_cons (tev_var (i := 5)) (tav_cons (tev_op (tev_var (i := 2)) (tev_var (i := 5)) ov_ix) tav_nil))))))) (tsm_ret (tem_lift (tev_tup (tav_cons (tev_var (i := 5)) (tav_cons (tev_op (tev_var (i := 2)) (tev_var (i := 5)) ov_ix) tav_nil))))) tsm_next)) (tsm_seq (tsm_set (tem_lift (tev_op (tev_n (ten_lc (tiv_any (tev_var (i := 4))) tgq_name (by decide) (ttv_test (tev_op (tev_var (i := 5)) (tev_var (i := 3)) ov_nin)) (tev_var (i := 5)))) (tev_c fun _ => .int _) ov_ix))) (tsm_seq (tsm_set (tem_lift (tev_cb (tav_cons (tev_call (qlen_cons (qlen_cons qlen_nil)) (tav_cons (tev_var (i := 0)) (tav_cons (tev_var (i := 1)) tav_nil))) (tav_cons (tev_call (qlen_cons (qlen_cons qlen_nil)) (tav_cons (tev_var (i := 0)) (tav_cons (tev_var (i := 2)) tav_nil))) tav_nil)) cb_max2))) (tsm_ret (tem_lift (tev_tup (tav_cons (tev_var (i := 5)) (tav_cons (tev_call (qlen_cons (qlen_cons qlen_nil)) (tav_cons (tev_var (i := 6)) (tav_cons (tev_op (tev_op (tev_var (i := 0)) (tev_var (i := 5)) ov_ix) (tev_c fun _ => .int _) ov_ix) tav_nil))) tav_nil))))))))), by decide⟩
abbrev s_moves : Stmt := topS 9
theorem sc_moves : FnScope ["things", "olds", "news", "places", "found", "aside", "t", "place"] ["things", "olds", "news"] (defScope s_moves) := ⟨rfl, rfl, rfl, by decide +kernel, rfl, by decide +kernel, by decide +kernel⟩
noncomputable def m_moves : MS := (sSeq (sPar3 3 4 5 (mCons (mNew (qCb oList (qCons (qVar 1) qNil))) (mCons (mNew (qLst qNil)) (mCons (mNew (qLst qNil)) mNil)))) (sSeq (sWhile (bLift (qB (qOp oNe (qVar 3) (qVar 2)))) (sSeq (sAsg (fTup 2 (fCons (fName 6) (fCons (fName 7) fNil))) (mLift (qCall (qOf f_next_move) (qCons (qVar 0) (qCons (qVar 3) (qCons (qVar 2) (qCons (qVar 5) qNil))))))) (sSeq (sIf (bLift (qB (qOp oNe (qVar 7) (qOp oIx (qVar 2) (qVar 6))))) (sDrop (mMt 5 fAppend (mCons (mLift (qVar 6)) mNil))) sNext) (sSeq (sSetU 3 (qVar 6) (mLift (qVar 7))) (sDrop (mMt 4 fAppend (mCons (mLift (qTup (qCons (qVar 6) (qCons (qVar 7) qNil)))) mNil))))))) (sRet (mMove 4))))
noncomputable def f_moves : List O → FR := defN 5 [false, false, false] m_moves
theorem ok_moves {f : Addr} {fd : FuncData} (Fc : Fct mg) (F : FunD K "moves" "moves" (defArgs s_moves) (defBody s_moves) (defScope s_moves) [] [] f fd) (g : mg "moves" = some (.ref f)) (c_next_move : CalG P w K mg base 4 "next_move" (spM ⟨K, cl⟩ 4 f_next_move)) : CalG P w K mg base 5 "moves" (spM ⟨K, cl⟩ 3 f_moves) := by
  refine ⟨f, fd, ["things", "olds", "news"], ?_, g, F.kp, F.bindsN fun _ _ _ _ _ _ us hl => match us, hl with | [_, _, _], _ => rfl⟩
  refine def_okN (io := [false, false, false]) (more := 5) (m := m_moves) F sc_moves rfl rfl ?_
  intro cdv A outer s H E hr
  exact ⟨_, _, (pss_cons (ps_par3 (i := 3) (j := 4) (l := 5) rfl sc_moves.nd rfl rfl rfl (by decide) (by decide) (by decide) rfl rfl rfl (pa_cons (pe_callTy call_list_of rfl Fc.f_list (by rfl) (pa_cons (pv 1) pa_nil)) (pa_cons (pe_lst pa_nil) (pa_cons (pe_lst pa_nil) pa_nil))) rfl) (pss_cons (ps_while PassesOwn.never (pt_cmpR (op_neU hr.u64) (pv 3) (pv 2) (nomark _)) (pss_cons (ps_asg (pe_g c_next_move.quiet hr (by decide) passL rfl (pa_cons (pv 0) (pa_cons (pv 3) (pa_cons (pv 2) (pa_cons (pv 5) pa_nil))))) (pg_tup rfl (pgs_cons (pg_name (i := 6) sc_moves.nd rfl (.inl rfl)) (pgs_cons (pg_name (i := 7) sc_moves.nd rfl (.inl rfl)) pgs_nil)))) (pss_cons (ps_if (pt_cmpR (op_neU hr.u64) (pv 7) (pe_ix (ix_U hr.u1) (pv 2) (pv 6) (fun _ _ => rfl)) (nomark _)) (pss_one (ps_expr (pe_bm PySem.F.plainAttrs_list PySem.F.slot_list_append PySem.F.type_list_append mt_append (pv 5) (pa_cons (pv 6) pa_nil)))) pss_nil) (pss_cons (ps_asg (pv 7) (pg_sub (pv 3) (pv 6) (set_U hr.u1))) (pss_one (ps_expr (pe_bm PySem.F.plainAttrs_list PySem.F.slot_list_append PySem.F.type_list_append mt_append (pv 4) (pa_cons (pe_tup (pa_cons (pv 6) (pa_cons (pv 7) pa_nil))) pa_nil)))))))) (pss_one (ps_ret (pv 4))))), (tsm_seq (tsm_par3 (tam_val (tem_new (ten_cb (tav_cons (tev_var (i := 1)) tav_nil) cn_list)) (tam_val (tem_new (ten_lst tav_nil)) (tam_val (tem_new (ten_lst tav_nil)) tam_nil)))) (tsm_seq (tsm_while (ttm_lift (ttv_test (tev_op (tev_var (i := 3)) (tev_var (i := 2)) ov_ne))) (tsm_seq (tsm_asg (tgq_tup (tgsq_cons tgq_name (tgsq_cons tgq_name tgsq_nil))) (tem_lift (tev_call (qlen_cons (qlen_cons (qlen_cons (qlen_cons qlen_nil)))) (tav_cons (tev_var (i := 0)) (tav_cons (tev_var (i := 3)) (tav_cons (tev_var (i := 2)) (tav_cons (tev_var (i := 5)) tav_nil))))))) (tsm_seq (tsm_if (ttm_lift (ttv_test (tev_op (tev_var (i := 7)) (tev_op (tev_var (i := 2)) (tev_var (i := 6)) ov_ix) ov_ne))) (tsm_drop (tem_mt (tam_val (tem_lift (tev_var (i := 6))) tam_nil) lm_append)) tsm_next) (tsm_seq (tsm_setU (tem_lift (tev_var (i := 7))) (tev_var (i := 6))) (tsm_drop (tem_mt (tam_val (tem_lift (tev_tup (tav_cons (tev_var (i := 6)) (tav_cons (tev_var (i := 7)) tav_nil)))) tam_nil) lm_append)))))) (tsm_ret tem_move))), by decide⟩
abbrev s__law_over : Stmt := topS 21
theorem sc__law_over : FnScope ["_law_one", "_law_place", "_law_other", "_law_there"] ["_law_one", "_law_place", "_law_other", "_law_there"] (defScope s__law_over) := ⟨rfl, rfl, rfl, by decide +kernel, rfl, by decide +kernel, by decide +kernel⟩
noncomputable def m__law_over : MS := (sRet (mLift (qAndV (qOp oLt (qVar 1) (qOp oAdd (qVar 3) (qOp oIx (qVar 2) (qC (.int 0))))) (qOp oLt (qVar 3) (qOp oAdd (qVar 1) (qOp oIx (qVar 0) (qC (.int 0))))))))
noncomputable def f__law_over : List O → FR := defN 0 [false, false, false, false] m__law_over
theorem ok__law_over {f : Addr} {fd : FuncData} (Fc : Fct mg) (F : FunD K "_law_over" "_law_over" (defArgs s__law_over) (defBody s__law_over) (defScope s__law_over) [] [] f fd) (g : mg "_law_over" = some (.ref f)) : CalG P w K mg base 1 "_law_over" (spM ⟨K, cl⟩ 4 f__law_over) := by
  refine ⟨f, fd, ["_law_one", "_law_place", "_law_other", "_law_there"], ?_, g, F.kp, F.bindsN fun _ _ _ _ _ _ us hl => match us, hl with | [_, _, _, _], _ => rfl⟩
  refine def_okN (io := [false, false, false, false]) (more := 0) (m := m__law_over) F sc__law_over rfl rfl ?_
  intro cdv A outer s H E hr
  exact ⟨_, _, (pss_one (ps_ret (pe_and (pe_cmpR op_lt (pv 1) (pe_op op_addU (pv 3) (pe_ix (ix_U hr.u1) (pv 2) pe_int (fun _ _ => rfl))) (nomark _)) (pe_one (pe_cmpR op_lt (pv 3) (pe_op op_addU (pv 1) (pe_ix (ix_U hr.u1) (pv 0) pe_int (fun _ _ => rfl))) (nomark _)))))), (tsm_ret (tem_lift (tev_andV (tev_op (tev_var (i := 1)) (tev_op (tev_var (i := 3)) (tev_op (tev_var (i := 2)) (tev_c fun _ => .int _) ov_ix) ov_add) ov_lt) (tev_op (tev_var (i := 3)) (tev_op (tev_var (i := 1)) (tev_op (tev_var (i := 0)) (tev_c fun _ => .int _) ov_ix) ov_add) ov_lt)))), by decide⟩
abbrev s__law_played : Stmt := topS 22
theorem sc__law_played : FnScope ["_law_things_here", "_law_olds", "_law_told", "_law_places", "_law_move", "_law_t", "_law_place", "_law_u", "_law_part"] ["_law_things_here", "_law_olds", "_law_told"] (defScope s__law_played) := ⟨rfl, rfl, rfl, by decide +kernel, rfl, by decide +kernel, by decide +kernel⟩
noncomputable def m__law_played : MS := (sSeq (sIf (bLift (qNot (qB (qIsi "list" (qVar 2))))) (sRet (mLift (qC (.none)))) sNext) (sSeq (sSet 3 (mNew (qCb oList (qCons (qVar 1) qNil)))) (sSeq (sFor (iLift (qIfA (qVar 2))) (fName 4) (sSeq (sIf (bLift (qOr (qNot (qB (qIsi "tuple" (qVar 4)))) (qB (qOp oNe (qCb oLen (qCons (qVar 4) qNil)) (qC (.int 2)))))) (sRet (mLift (qC (.none)))) sNext) (sSeq (sIf (bLift (qNot (qB (qCb oAll (qCons (qFz (qLc (qItA (qVar 4)) (fName 8) qYes (qAndV (qIsi "int" (qVar 8)) (qAndV (qNotV (qIsi "bool" (qVar 8))) (qOp oGe (qVar 8) (qC (.int 0))))) [8])) qNil))))) (sRet (mLift (qC (.none)))) sNext) (sSeq (sAsg (fTup 2 (fCons (fName 5) (fCons (fName 6) fNil))) (mLift (qVar 4))) (sSeq (sIf (bLift (qOr (qB (qOp oGe (qVar 5) (qCb oLen (qCons (qVar 0) qNil)))) (qB (qOp oNe (qOp oMod (qVar 6) (qOp oIx (qOp oIx (qVar 0) (qVar 5)) (qC (.int 1)))) (qC (.int 0)))))) (sRet (mLift (qC (.none)))) sNext) (sSeq (sFor (iLift (qRng1 (qCons (qCb oLen (qCons (qVar 0) qNil)) qNil))) (fName 7) (sIf (bLift (qAnd (qB (qOp oNe (qVar 7) (qVar 5))) (qB (qCall (qOf f__law_over) (qCons (qOp oIx (qVar 0) (qVar 5)) (qCons (qVar 6) (qCons (qOp oIx (qVar 0) (qVar 7)) (qCons (qOp oIx (qVar 3) (qVar 7)) qNil)))))))) (sRet (mLift (qC (.none)))) sNext)) (sSetU 3 (qVar 5) (mLift (qVar 6))))))))) (sRet (mMove 3)))))
noncomputable def f__law_played : List O → FR := defN 6 [false, false, false] m__law_played
theorem ok__law_played {f : Addr} {fd : FuncData} (Fc : Fct mg) (F : FunD K "_law_played" "_law_played" (defArgs s__law_played) (defBody s__law_played) (defScope s__law_played) [] [] f fd) (g : mg "_law_played" = some (.ref f)) (c__law_over : CalG P w K mg base 1 "_law_over" (spM ⟨K, cl⟩ 4 f__law_over)) : CalG P w K mg base 2 "_law_played" (spM ⟨K, cl⟩ 3 f__law_played) := by
  refine ⟨f, fd, ["_law_things_here", "_law_olds", "_law_told"], ?_, g, F.kp, F.bindsN fun _ _ _ _ _ _ us hl => match us, hl with | [_, _, _], _ => rfl⟩
  refine def_okN (io := [false, false, false]) (more := 6) (m := m__law_played) F sc__law_played rfl rfl ?_
  intro cdv A outer s H E hr
  exact ⟨_, _, (pss_cons (ps_if (pt_not (pt_val (pe_callB call_isi1 rfl Fc.f_isinstance (by rfl) (pa_cons (pv 2) (pa_cons (pe_bltn (v := .ty "list") (u := .type "list") rfl Fc.f_list (by rfl) rfl) pa_nil))))) (pss_one (ps_ret pe_non)) pss_nil) (pss_cons (ps_set (i := 3) sc__law_played.nd rfl (.inl rfl) (pe_callTy call_list_of rfl Fc.f_list (by rfl) (pa_cons (pv 1) pa_nil))) (pss_cons (ps_for PassesOwn.never rfl (pi_any (pv 2)) (pg_name (i := 4) sc__law_played.nd rfl (.inl rfl)) (pss_cons (ps_if (PW.pt (pw_or (pt_not (pt_val (pe_callB call_isi1 rfl Fc.f_isinstance (by rfl) (pa_cons (pv 4) (pa_cons (pe_bltn (v := .ty "tuple") (u := .type "tuple") rfl Fc.f_tuple (by rfl) rfl) pa_nil))))) (pw_or1 (pt_cmpR (op_neU hr.u64) (pe_callB call_lenU rfl Fc.f_len (by rfl) (pa_cons (pv 4) pa_nil)) pe_int (nomark _))))) (pss_one (ps_ret pe_non)) pss_nil) (pss_cons (ps_if (pt_not (pt_val (pe_callB (cr_all rfl) rfl Fc.f_all (by rfl) (pa_cons (pe_lc (own := [("_law_part", 8)]) rfl sc__law_played.nd (pi_any (pv 4)) (blkOk_by (N := ["_law_things_here", "_law_olds", "_law_told", "_law_places", "_law_move", "_law_t", "_law_place", "_law_u", "_law_part"]) (sc := defScope s__law_played) (own := [("_law_part", 8)]) (by decide +kernel)) (fun _ _ _ _ _ => (pg_name (i := 8) sc__law_played.nd rfl (.inl rfl))) (fun _ _ _ _ _ => pts_nil) (fun _ _ _ _ _ => (pe_and (pe_callB call_isi1 rfl Fc.f_isinstance (by rfl) (pa_cons (pv 8) (pa_cons (pe_bltn (v := .ty "int") (u := .type "int") rfl Fc.f_int (by rfl) rfl) pa_nil))) (pe_and (pe_not (pe_callB call_isi1 rfl Fc.f_isinstance (by rfl) (pa_cons (pv 8) (pa_cons (pe_bltn (v := .ty "bool") (u := .type "bool") rfl Fc.f_bool (by rfl) rfl) pa_nil)))) (pe_one (pe_cmpR op_ge (pv 8) pe_int (nomark _))))))) pa_nil)))) (pss_one (ps_ret pe_non)) pss_nil) (pss_cons (ps_asg (pv 4) (pg_tup rfl (pgs_cons (pg_name (i := 5) sc__law_played.nd rfl (.inl rfl)) (pgs_cons (pg_name (i := 6) sc__law_played.nd rfl (.inl rfl)) pgs_nil)))) (pss_cons (ps_if (PW.pt (pw_or (pt_cmpR op_ge (pv 5) (pe_callB call_lenU rfl Fc.f_len (by rfl) (pa_cons (pv 0) pa_nil)) (nomark _)) (pw_or1 (pt_cmpR (op_neU hr.u64) (pe_op op_mod (pv 6) (pe_ix (ix_U hr.u1) (pe_ix (ix_U hr.u1) (pv 0) (pv 5) (fun _ _ => rfl)) pe_int (fun _ _ => rfl))) pe_int (nomark _))))) (pss_one (ps_ret pe_non)) pss_nil) (pss_cons (ps_for PassesOwn.never rfl (pi_range1 rfl Fc.f_range (pa_cons (pe_callB call_lenU rfl Fc.f_len (by rfl) (pa_cons (pv 0) pa_nil)) pa_nil)) (pg_name (i := 7) sc__law_played.nd rfl (.inl rfl)) (pss_one (ps_if (PW.pt (pw_and (pt_cmpR (op_neU hr.u64) (pv 7) (pv 5) (nomark _)) (pw_and1 (pt_val (pe_g c__law_over.quiet hr (by decide) passL rfl (pa_cons (pe_ix (ix_U hr.u1) (pv 0) (pv 5) (fun _ _ => rfl)) (pa_cons (pv 6) (pa_cons (pe_ix (ix_U hr.u1) (pv 0) (pv 7) (fun _ _ => rfl)) (pa_cons (pe_ix (ix_U hr.u1) (pv 3) (pv 7) (fun _ _ => rfl)) pa_nil))))))))) (pss_one (ps_ret pe_non)) pss_nil))) (pss_one (ps_asg (pv 6) (pg_sub (pv 3) (pv 5) (set_U hr.u1)))))))))) (pss_one (ps_ret (pv 3)))))), (tsm_seq (tsm_if (ttm_lift (ttv_not (ttv_B (tev_isi (tev_var (i := 2)))))) (tsm_ret (tem_lift (tev_c fun _ => .non))) tsm_next) (tsm_seq (tsm_set (tem_new (ten_cb (tav_cons (tev_var (i := 1)) tav_nil) cn_list))) (tsm_seq (tsm_for (tim_lift (tif_any (tev_var (i := 2)))) tgq_name (tsm_seq (tsm_if (ttm_lift (ttv_or (ttv_not (ttv_B (tev_isi (tev_var (i := 4))))) (ttv_test (tev_op (tev_cb (tav_cons (tev_var (i := 4)) tav_nil) cb_len) (tev_c fun _ => .int _) ov_ne)))) (tsm_ret (tem_lift (tev_c fun _ => .non))) tsm_next) (tsm_seq (tsm_if (ttm_lift (ttv_not (ttv_B (tev_cb (tav_cons (tev_n (ten_lc (tiv_any (tev_var (i := 4))) tgq_name (by decide) ttv_yes (tev_andV (tev_isi (tev_var (i := 8))) (tev_andV (tev_notV (tev_isi (tev_var (i := 8)))) (tev_op (tev_var (i := 8)) (tev_c fun _ => .int _) ov_ge))))) tav_nil) cb_all)))) (tsm_ret (tem_lift (tev_c fun _ => .non))) tsm_next) (tsm_seq (tsm_asg (tgq_tup (tgsq_cons tgq_name (tgsq_cons tgq_name tgsq_nil))) (tem_lift (tev_var (i := 4)))) (tsm_seq (tsm_if (ttm_lift (ttv_or (ttv_test (tev_op (tev_var (i := 5)) (tev_cb (tav_cons (tev_var (i := 0)) tav_nil) cb_len) ov_ge)) (ttv_test (tev_op (tev_op (tev_var (i := 6)) (tev_op (tev_op (tev_var (i := 0)) (tev_var (i := 5)) ov_ix) (tev_c fun _ => .int _) ov_ix) ov_mod) (tev_c fun _ => .int _) ov_ne)))) (tsm_ret (tem_lift (tev_c fun _ => .non))) tsm_next) (tsm_seq (tsm_for (tim_lift (tif_rng1 (tav_cons (tev_cb (tav_cons (tev_var (i := 0)) tav_nil) cb_len) tav_nil))) tgq_name (tsm_if (ttm_lift (ttv_and (ttv_test (tev_op (tev_var (i := 7)) (tev_var (i := 5)) ov_ne)) (ttv_B (tev_call (qlen_cons (qlen_cons (qlen_cons (qlen_cons qlen_nil)))) (tav_cons (tev_op (tev_var (i := 0)) (tev_var (i := 5)) ov_ix) (tav_cons (tev_var (i := 6)) (tav_cons (tev_op (tev_var (i := 0)) (tev_var (i := 7)) ov_ix) (tav_cons (tev_op (tev_var (i := 3)) (tev_var (i := 7)) ov_ix) tav_nil)))))))) (tsm_ret (tem_lift (tev_c fun _ => .non))) tsm_next)) (tsm_setU (tem_lift (tev_var (i := 6))) (tev_var (i := 5))))))))) (tsm_ret tem_move)))), by decide⟩
abbrev s_is_number : Stmt := topS 1
theorem sc_is_number : FnScope ["thing", "least"] ["thing", "least"] (defScope s_is_number) := ⟨rfl, rfl, rfl, by decide +kernel, rfl, by decide +kernel, by decide +kernel⟩
noncomputable def m_is_number : MS := (sRet (mLift (qAndV (qIsi "int" (qVar 0)) (qAndV (qNotV (qIsi "bool" (qVar 0))) (qOp oGe (qVar 0) (qVar 1))))))
noncomputable def f_is_number : List O → FR := defN 0 [false, false] m_is_number
theorem ok_is_number {f : Addr} {fd : FuncData} (Fc : Fct mg) (F : FunD K "is_number" "is_number" (defArgs s_is_number) (defBody s_is_number) (defScope s_is_number) [] [] f fd) (g : mg "is_number" = some (.ref f)) : CalG P w K mg base 1 "is_number" (spM ⟨K, cl⟩ 2 f_is_number) := by
  refine ⟨f, fd, ["thing", "least"], ?_, g, F.kp, F.bindsN fun _ _ _ _ _ _ us hl => match us, hl with | [_, _], _ => rfl⟩
  refine def_okN (io := [false, false]) (more := 0) (m := m_is_number) F sc_is_number rfl rfl ?_
  intro cdv A outer s H E hr
  exact ⟨_, _, (pss_one (ps_ret (pe_and (pe_callB call_isi1 rfl Fc.f_isinstance (by rfl) (pa_cons (pv 0) (pa_cons (pe_bltn (v := .ty "int") (u := .type "int") rfl Fc.f_int (by rfl) rfl) pa_nil))) (pe_and (pe_not (pe_callB call_isi1 rfl Fc.f_isinstance (by rfl) (pa_cons (pv 0) (pa_cons (pe_bltn (v := .ty "bool") (u := .type "bool") rfl Fc.f_bool (by rfl) rfl) pa_nil)))) (pe_one (pe_cmpR op_ge (pv 0) (pv 1) (nomark _))))))), (tsm_ret (tem_lift (tev_andV (tev_isi (tev_var (i := 0))) (tev_andV (tev_notV (tev_isi (tev_var (i := 0)))) (tev_op (tev_var (i := 0)) (tev_var (i := 1)) ov_ge))))), by decide⟩
abbrev s_is_move : Stmt := topS 10
theorem sc_is_move : FnScope ["things", "thing", "part"] ["things", "thing"] (defScope s_is_move) := ⟨rfl, rfl, rfl, by decide +kernel, rfl, by decide +kernel, by decide +kernel⟩
noncomputable def m_is_move : MS := (sSeq (sIf (bLift (qOr (qNot (qB (qIsi "tuple" (qVar 1)))) (qOr (qB (qOp oNe (qCb oLen (qCons (qVar 1) qNil)) (qC (.int 2)))) (qNot (qB (qCb oAll (qCons (qFz (qLc (qItA (qVar 1)) (fName 2) qYes (qCall (qOf f_is_number) (qCons (qVar 2) (qCons (qC (.int 0)) qNil))) [2])) qNil))))))) (sRet (mLift (qC (.bool false)))) sNext) (sRet (mLift (qAndV (qOp oLt (qOp oIx (qVar 1) (qC (.int 0))) (qCb oLen (qCons (qVar 0) qNil))) (qOp oEq (qOp oMod (qOp oIx (qVar 1) (qC (.int 1))) (qOp oIx (qOp oIx (qVar 0) (qOp oIx (qVar 1) (qC (.int 0)))) (qC (.int 1)))) (qC (.int 0)))))))
noncomputable def f_is_move : List O → FR := defN 1 [false, false] m_is_move
theorem ok_is_move {f : Addr} {fd : FuncData} (Fc : Fct mg) (F : FunD K "is_move" "is_move" (defArgs s_is_move) (defBody s_is_move) (defScope s_is_move) [] [] f fd) (g : mg "is_move" = some (.ref f)) (c_is_number : CalG P w K mg base 1 "is_number" (spM ⟨K, cl⟩ 2 f_is_number)) : CalG P w K mg base 2 "is_move" (spM ⟨K, cl⟩ 2 f_is_move) := by
  refine ⟨f, fd, ["things", "thing"], ?_, g, F.kp, F.bindsN fun _ _ _ _ _ _ us hl => match us, hl with | [_, _], _ => rfl⟩
  refine def_okN (io := [false, false]) (more := 1) (m := m_is_move) F sc_is_move rfl rfl ?_
  intro cdv A outer s H E hr
  exact ⟨_, _, (pss_cons (ps_if (PW.pt (pw_or (pt_not (pt_val (pe_callB call_isi1 rfl Fc.f_isinstance (by rfl) (pa_cons (pv 1) (pa_cons (pe_bltn (v := .ty "tuple") (u := .type "tuple") rfl Fc.f_tuple (by rfl) rfl) pa_nil))))) (pw_or (pt_cmpR (op_neU hr.u64) (pe_callB call_lenU rfl Fc.f_len (by rfl) (pa_cons (pv 1) pa_nil)) pe_int (nomark _)) (pw_or1 (pt_not (pt_val (pe_callB (cr_all rfl) rfl Fc.f_all (by rfl) (pa_cons (pe_lc (own := [("part", 2)]) rfl sc_is_move.nd (pi_any (pv 1)) (blkOk_by (N := ["things", "thing", "part"]) (sc := defScope s_is_move) (own := [("part", 2)]) (by decide +kernel)) (fun _ _ _ _ _ => (pg_name (i := 2) sc_is_move.nd rfl (.inl rfl))) (fun _ _ _ _ _ => pts_nil) (fun _ _ _ _ _ => (pe_g c_is_number.quiet hr (by decide) passL rfl (pa_cons (pv 2) (pa_cons pe_int pa_nil))))) pa_nil)))))))) (pss_one (ps_ret pe_bl)) pss_nil) (pss_one (ps_ret (pe_and (pe_cmpR op_lt (pe_ix (ix_U hr.u1) (pv 1) pe_int (fun _ _ => rfl)) (pe_callB call_lenU rfl Fc.f_len (by rfl) (pa_cons (pv 0) pa_nil)) (nomark _)) (pe_one (pe_cmpR (op_eqU hr.u64) (pe_op op_mod (pe_ix (ix_U hr.u1) (pv 1) pe_int (fun _ _ => rfl)) (pe_ix (ix_U hr.u1) (pe_ix (ix_U hr.u1) (pv 0) (pe_ix (ix_U hr.u1) (pv 1) pe_int (fun _ _ => rfl)) (fun _ _ => rfl)) pe_int (fun _ _ => rfl))) pe_int (nomark _))))))), (tsm_seq (tsm_if (ttm_lift (ttv_or (ttv_not (ttv_B (tev_isi (tev_var (i := 1))))) (ttv_or (ttv_test (tev_op (tev_cb (tav_cons (tev_var (i := 1)) tav_nil) cb_len) (tev_c fun _ => .int _) ov_ne)) (ttv_not (ttv_B (tev_cb (tav_cons (tev_n (ten_lc (tiv_any (tev_var (i := 1))) tgq_name (by decide) ttv_yes (tev_call (qlen_cons (qlen_cons qlen_nil)) (tav_cons (tev_var (i := 2)) (tav_cons (tev_c fun _ => .int _) tav_nil))))) tav_nil) cb_all)))))) (tsm_ret (tem_lift (tev_c fun _ => .bl _))) tsm_next) (tsm_ret (tem_lift (tev_andV (tev_op (tev_op (tev_var (i := 1)) (tev_c fun _ => .int _) ov_ix) (tev_cb (tav_cons (tev_var (i := 0)) tav_nil) cb_len) ov_lt) (tev_op (tev_op (tev_op (tev_var (i := 1)) (tev_c fun _ => .int _) ov_ix) (tev_op (tev_op (tev_var (i := 0)) (tev_op (tev_var (i := 1)) (tev_c fun _ => .int _) ov_ix) ov_ix) (tev_c fun _ => .int _) ov_ix) ov_mod) (tev_c fun _ => .int _) ov_eq))))), by decide⟩
abbrev s_shows_moves : Stmt := topS 11
theorem sc_shows_moves : FnScope ["things", "olds", "news", "thing", "places", "move"] ["things", "olds", "news", "thing"] (defScope s_shows_moves) := ⟨rfl, rfl, rfl, by decide +kernel, rfl, by decide +kernel, by decide +kernel⟩
noncomputable def m_shows_moves : MS := (sSeq (sIf (bLift (qNot (qB (qIsi "list" (qVar 3))))) (sRet (mLift (qC (.bool false)))) sNext) (sSeq (sSet 4 (mNew (qCb oList (qCons (qVar 1) qNil)))) (sSeq (sFor (iLift (qIfA (qVar 3))) (fName 5) (sSeq (sIf (bLift (qOr (qNot (qB (qCall (qOf f_is_move) (qCons (qVar 0) (qCons (qVar 5) qNil))))) (qNot (qB (qCall (qOf f_is_free) (qCons (qVar 0) (qCons (qVar 4) (qCons (qOp oIx (qVar 5) (qC (.int 0))) (qCons (qOp oIx (qVar 5) (qC (.int 1))) qNil))))))))) (sRet (mLift (qC (.bool false)))) sNext) (sSetU 4 (qOp oIx (qVar 5) (qC (.int 0))) (mLift (qOp oIx (qVar 5) (qC (.int 1))))))) (sRet (mLift (qOp oEq (qVar 4) (qVar 2)))))))
noncomputable def f_shows_moves : List O → FR := defN 2 [false, false, false, false] m_shows_moves
theorem ok_shows_moves {f : Addr} {fd : FuncData} (Fc : Fct mg) (F : FunD K "shows_moves" "shows_moves" (defArgs s_shows_moves) (defBody s_shows_moves) (defScope s_shows_moves) [] [] f fd) (g : mg "shows_moves" = some (.ref f)) (c_is_move : CalG P w K mg base 2 "is_move" (spM ⟨K, cl⟩ 2 f_is_move)) (c_is_free : CalG P w K mg base 3 "is_free" (spM ⟨K, cl⟩ 4 f_is_free)) : CalG P w K mg base 4 "shows_moves" (spM ⟨K, cl⟩ 4 f_shows_moves) := by
  refine ⟨f, fd, ["things", "olds", "news", "thing"], ?_, g, F.kp, F.bindsN fun _ _ _ _ _ _ us hl => match us, hl with | [_, _, _, _], _ => rfl⟩
  refine def_okN (io := [false, false, false, false]) (more := 2) (m := m_shows_moves) F sc_shows_moves rfl rfl ?_
  intro cdv A outer s H E hr
  exact ⟨_, _, (pss_cons (ps_if (pt_not (pt_val (pe_callB call_isi1 rfl Fc.f_isinstance (by rfl) (pa_cons (pv 3) (pa_cons (pe_bltn (v := .ty "list") (u := .type "list") rfl Fc.f_list (by rfl) rfl) pa_nil))))) (pss_one (ps_ret pe_bl)) pss_nil) (pss_cons (ps_set (i := 4) sc_shows_moves.nd rfl (.inl rfl) (pe_callTy call_list_of rfl Fc.f_list (by rfl) (pa_cons (pv 1) pa_nil))) (pss_cons (ps_for PassesOwn.never rfl (pi_any (pv 3)) (pg_name (i := 5) sc_shows_moves.nd rfl (.inl rfl)) (pss_cons (ps_if (PW.pt (pw_or (pt_not (pt_val (pe_g c_is_move.quiet hr (by decide) passL rfl (pa_cons (pv 0) (pa_cons (pv 5) pa_nil))))) (pw_or1 (pt_not (pt_val (pe_g c_is_free.quiet hr (by decide) passL rfl (pa_cons (pv 0) (pa_cons (pv 4) (pa_cons (pe_ix (ix_U hr.u1) (pv 5) pe_int (fun _ _ => rfl)) (pa_cons (pe_ix (ix_U hr.u1) (pv 5) pe_int (fun _ _ => rfl)) pa_nil)))))))))) (pss_one (ps_ret pe_bl)) pss_nil) (pss_one (ps_asg (pe_ix (ix_U hr.u1) (pv 5) pe_int (fun _ _ => rfl)) (pg_sub (pv 4) (pe_ix (ix_U hr.u1) (pv 5) pe_int (fun _ _ => rfl)) (set_U hr.u1)))))) (pss_one (ps_ret (pe_cmpR (op_eqU hr.u64) (pv 4) (pv 2) (nomark _))))))), (tsm_seq (tsm_if (ttm_lift (ttv_not (ttv_B (tev_isi (tev_var (i := 3)))))) (tsm_ret (tem_lift (tev_c fun _ => .bl _))) tsm_next) (tsm_seq (tsm_set (tem_new (ten_cb (tav_cons (tev_var (i := 1)) tav_nil) cn_list))) (tsm_seq (tsm_for (tim_lift (tif_any (tev_var (i := 3)))) tgq_name (tsm_seq (tsm_if (ttm_lift (ttv_or (ttv_not (ttv_B (tev_call (qlen_cons (qlen_cons qlen_nil)) (tav_cons (tev_var (i := 0)) (tav_cons (tev_var (i := 5)) tav_nil))))) (ttv_not (ttv_B (tev_call (qlen_cons (qlen_cons (qlen_cons (qlen_cons qlen_nil)))) (tav_cons (tev_var (i := 0)) (tav_cons (tev_var (i := 4)) (tav_cons (tev_op (tev_var (i := 5)) (tev_c fun _ => .int _) ov_ix) (tav_cons (tev_op (tev_var (i := 5)) (tev_c fun _ => .int _) ov_ix) tav_nil))))))))) (tsm_ret (tem_lift (tev_c fun _ => .bl _))) tsm_next) (tsm_setU (tem_lift (tev_op (tev_var (i := 5)) (tev_c fun _ => .int _) ov_ix)) (tev_op (tev_var (i := 5)) (tev_c fun _ => .int _) ov_ix)))) (tsm_ret (tem_lift (tev_op (tev_var (i := 4)) (tev_var (i := 2)) ov_eq)))))), by decide⟩
abbrev s__law_same : Stmt := topS 16
theorem sc__law_same : FnScope ["_law_found", "_law_due", "_law_one", "_law_other"] ["_law_found", "_law_due"] (defScope s__law_same) := ⟨rfl, rfl, rfl, by decide +kernel, rfl, by decide +kernel, by decide +kernel⟩
noncomputable def m__law_same (r__law_same : List O → FR) : MS := (sSeq (sIf (bLift (qB (qOp oIsN (qVar 1) (qC (.none))))) (sRet (mLift (qOp oIsN (qVar 0) (qC (.none))))) sNext) (sSeq (sIf (bLift (qB (qIsi "bool" (qVar 1)))) (sRet (mLift (qAndV (qIsi "bool" (qVar 0)) (qOp oEq (qVar 0) (qVar 1))))) sNext) (sSeq (sIf (bLift (qB (qIsi2 "list" "tuple" (qVar 1)))) (sSeq (sIf (bLift (qOr (qB (qOp oNe (qIsi "list" (qVar 0)) (qIsi "list" (qVar 1)))) (qB (qOp oNe (qIsi "tuple" (qVar 0)) (qIsi "tuple" (qVar 1)))))) (sRet (mLift (qC (.bool false)))) sNext) (sRet (mLift (qAndV (qOp oEq (qCb oLen (qCons (qVar 0) qNil)) (qCb oLen (qCons (qVar 1) qNil))) (qCb oAll (qCons (qFz (qLc (qZipV (qCons (qVar 0) (qCons (qVar 1) qNil))) (fTup 2 (fCons (fName 2) (fCons (fName 3) fNil))) qYes (qCall (qOf r__law_same) (qCons (qVar 2) (qCons (qVar 3) qNil))) [2, 3])) qNil)))))) sNext) (sSeq (sIf (bLift (qB (qIsi "str" (qVar 1)))) (sRet (mLift (qAndV (qIsi "str" (qVar 0)) (qOp oEq (qVar 0) (qVar 1))))) sNext) (sRet (mLift (qAndV (qIsi "int" (qVar 0)) (qAndV (qNotV (qIsi "bool" (qVar 0))) (qOp oEq (qVar 0) (qVar 1))))))))))
theorem ok__law_same {j : Nat} (hj : 0 ≤ j) {r__law_same : List O → FR} {f : Addr} {fd : FuncData} (Fc : Fct mg) (F : FunD K "_law_same" "_law_same" (defArgs s__law_same) (defBody s__law_same) (defScope s__law_same) [] [] f fd) (g : mg "_law_same" = some (.ref f)) (c__law_same : CalG P w K mg base j "_law_same" (spM ⟨K, cl⟩ 2 r__law_same)) : CalG P w K mg base (j + 1) "_law_same" (spM ⟨K, cl⟩ 2 (defN 2 [false, false] (m__law_same r__law_same))) := by
  refine ⟨f, fd, ["_law_found", "_law_due"], ?_, g, F.kp, F.bindsN fun _ _ _ _ _ _ us hl => match us, hl with | [_, _], _ => rfl⟩
  refine def_okN (io := [false, false]) (more := 2) (m := (m__law_same r__law_same)) F sc__law_same rfl rfl ?_
  intro cdv A outer s H E hr
  exact ⟨_, _, (pss_cons (ps_if (pt_cmpR op_isN (pv 1) pe_non (nomark _)) (pss_one (ps_ret (pe_cmpR op_isN (pv 0) pe_non (nomark _)))) pss_nil) (pss_cons (ps_if (pt_val (pe_callB call_isi1 rfl Fc.f_isinstance (by rfl) (pa_cons (pv 1) (pa_cons (pe_bltn (v := .ty "bool") (u := .type "bool") rfl Fc.f_bool (by rfl) rfl) pa_nil)))) (pss_one (ps_ret (pe_and (pe_callB call_isi1 rfl Fc.f_isinstance (by rfl) (pa_cons (pv 0) (pa_cons (pe_bltn (v := .ty "bool") (u := .type "bool") rfl Fc.f_bool (by rfl) rfl) pa_nil))) (pe_one (pe_cmpR (op_eqU hr.u64) (pv 0) (pv 1) (nomark _)))))) pss_nil) (pss_cons (ps_if (pt_val (pe_callB call_isi2 rfl Fc.f_isinstance (by rfl) (pa_cons (pv 1) (pa_cons (pe_tup (pa_cons (pe_bltn (v := .ty "list") (u := .type "list") rfl Fc.f_list (by rfl) rfl) (pa_cons (pe_bltn (v := .ty "tuple") (u := .type "tuple") rfl Fc.f_tuple (by rfl) rfl) pa_nil))) pa_nil)))) (pss_cons (ps_if (PW.pt (pw_or (pt_cmpR (op_neU hr.u64) (pe_callB call_isi1 rfl Fc.f_isinstance (by rfl) (pa_cons (pv 0) (pa_cons (pe_bltn (v := .ty "list") (u := .type "list") rfl Fc.f_list (by rfl) rfl) pa_nil))) (pe_callB call_isi1 rfl Fc.f_isinstance (by rfl) (pa_cons (pv 1) (pa_cons (pe_bltn (v := .ty "list") (u := .type "list") rfl Fc.f_list (by rfl) rfl) pa_nil))) (nomark _)) (pw_or1 (pt_cmpR (op_neU hr.u64) (pe_callB call_isi1 rfl Fc.f_isinstance (by rfl) (pa_cons (pv 0) (pa_cons (pe_bltn (v := .ty "tuple") (u := .type "tuple") rfl Fc.f_tuple (by rfl) rfl) pa_nil))) (pe_callB call_isi1 rfl Fc.f_isinstance (by rfl) (pa_cons (pv 1) (pa_cons (pe_bltn (v := .ty "tuple") (u := .type "tuple") rfl Fc.f_tuple (by rfl) rfl) pa_nil))) (nomark _))))) (pss_one (ps_ret pe_bl)) pss_nil) (pss_one (ps_ret (pe_and (pe_cmpR (op_eqU hr.u64) (pe_callB call_lenU rfl Fc.f_len (by rfl) (pa_cons (pv 0) pa_nil)) (pe_callB call_lenU rfl Fc.f_len (by rfl) (pa_cons (pv 1) pa_nil)) (nomark _)) (pe_one (pe_callB (cr_all rfl) rfl Fc.f_all (by rfl) (pa_cons (pe_lc (own := [("_law_one", 2), ("_law_other", 3)]) rfl sc__law_same.nd (pi_zipM rfl Fc.f_zip (pa_cons (pv 0) (pa_cons (pv 1) pa_nil))) (blkOk_by (N := ["_law_found", "_law_due", "_law_one", "_law_other"]) (sc := defScope s__law_same) (own := [("_law_one", 2), ("_law_other", 3)]) (by decide +kernel)) (fun _ _ _ _ _ => (pg_tup rfl (pgs_cons (pg_name (i := 2) sc__law_same.nd rfl (.inl rfl)) (pgs_cons (pg_name (i := 3) sc__law_same.nd rfl (.inl rfl)) pgs_nil)))) (fun _ _ _ _ _ => pts_nil) (fun _ _ _ _ _ => (pe_g c__law_same.quiet hr (Nat.le_refl _) passL rfl (pa_cons (pv 2) (pa_cons (pv 3) pa_nil))))) pa_nil))))))) pss_nil) (pss_cons (ps_if (pt_val (pe_callB call_isi1 rfl Fc.f_isinstance (by rfl) (pa_cons (pv 1) (pa_cons (pe_bltn (v := .ty "str") (u := .type "str") rfl Fc.f_str (by rfl) rfl) pa_nil)))) (pss_one (ps_ret (pe_and (pe_callB call_isi1 rfl Fc.f_isinstance (by rfl) (pa_cons (pv 0) (pa_cons (pe_bltn (v := .ty "str") (u := .type "str") rfl Fc.f_str (by rfl) rfl) pa_nil))) (pe_one (pe_cmpR (op_eqU hr.u64) (pv 0) (pv 1) (nomark _)))))) pss_nil) (pss_one (ps_ret (pe_and (pe_callB call_isi1 rfl Fc.f_isinstance (by rfl) (pa_cons (pv 0) (pa_cons (pe_bltn (v := .ty "int") (u := .type "int") rfl Fc.f_int (by rfl) rfl) pa_nil))) (pe_and (pe_not (pe_callB call_isi1 rfl Fc.f_isinstance (by rfl) (pa_cons (pv 0) (pa_cons (pe_bltn (v := .ty "bool") (u := .type "bool") rfl Fc.f_bool (by rfl) rfl) pa_nil)))) (pe_one (pe_cmpR (op_eqU hr.u64) (pv 0) (pv 1) (nomark _))))))))))), (tsm_seq (tsm_if (ttm_lift (ttv_test (tev_op (tev_var (i := 1)) (tev_c fun _ => .non) ov_isN))) (tsm_ret (tem_lift (tev_op (tev_var (i := 0)) (tev_c fun _ => .non) ov_isN))) tsm_next) (tsm_seq (tsm_if (ttm_lift (ttv_B (tev_isi (tev_var (i := 1))))) (tsm_ret (tem_lift (tev_andV (tev_isi (tev_var (i := 0))) (tev_op (tev_var (i := 0)) (tev_var (i := 1)) ov_eq)))) tsm_next) (tsm_seq (tsm_if (ttm_lift (ttv_B (tev_isi2 (tev_var (i := 1))))) (tsm_seq (tsm_if (ttm_lift (ttv_or (ttv_test (tev_op (tev_isi (tev_var (i := 0))) (tev_isi (tev_var (i := 1))) ov_ne)) (ttv_test (tev_op (tev_isi (tev_var (i := 0))) (tev_isi (tev_var (i := 1))) ov_ne)))) (tsm_ret (tem_lift (tev_c fun _ => .bl _))) tsm_next) (tsm_ret (tem_lift (tev_andV (tev_op (tev_cb (tav_cons (tev_var (i := 0)) tav_nil) cb_len) (tev_cb (tav_cons (tev_var (i := 1)) tav_nil) cb_len) ov_eq) (tev_cb (tav_cons (tev_n (ten_lc (tiv_zip (tav_cons (tev_var (i := 0)) (tav_cons (tev_var (i := 1)) tav_nil))) (tgq_tup (tgsq_cons tgq_name (tgsq_cons tgq_name tgsq_nil))) (by decide) ttv_yes (tev_call (qlen_cons (qlen_cons qlen_nil)) (tav_cons (tev_var (i := 2)) (tav_cons (tev_var (i := 3)) tav_nil))))) tav_nil) cb_all))))) tsm_next) (tsm_seq (tsm_if (ttm_lift (ttv_B (tev_isi (tev_var (i := 1))))) (tsm_ret (tem_lift (tev_andV (tev_isi (tev_var (i := 0))) (tev_op (tev_var (i := 0)) (tev_var (i := 1)) ov_eq)))) tsm_next) (tsm_ret (tem_lift (tev_andV (tev_isi (tev_var (i := 0))) (tev_andV (tev_notV (tev_isi (tev_var (i := 0)))) (tev_op (tev_var (i := 0)) (tev_var (i := 1)) ov_eq))))))))), by decide⟩
theorem bad__law_same {j : Nat} {g : List O → FR} (hb : g = fun _ => .bad) {f : Addr} {fd : FuncData} (Fc : Fct mg) (F : FunD K "_law_same" "_law_same" (defArgs s__law_same) (defBody s__law_same) (defScope s__law_same) [] [] f fd) (hm : mg "_law_same" = some (.ref f)) : CalG P w K mg base j "_law_same" (spM ⟨K, cl⟩ 2 g) := CalG.bad (ps := ["_law_found", "_law_due"]) hb F hm (F.bindsN fun _ _ _ _ _ _ us hl => match us, hl with | [_, _], _ => rfl)
noncomputable def grp__law_same : Nat → Nat → List O → FR
  | 0, _ => fun _ => .bad
  | n + 1, _ => defN 2 [false, false] (m__law_same (grp__law_same n 0))
noncomputable def f__law_same : List O → FR := grp__law_same 45 0
theorem all__law_same (Fc : Fct mg) {a__law_same : Addr} {fd__law_same : FuncData} (F__law_same : FunD K "_law_same" "_law_same" (defArgs s__law_same) (defBody s__law_same) (defScope s__law_same) [] [] a__law_same fd__law_same) (g__law_same : mg "_law_same" = some (.ref a__law_same)) : ∀ n : Nat, CalG P w K mg base (0 + n) "_law_same" (spM ⟨K, cl⟩ 2 (grp__law_same n 0))
  | 0 => bad__law_same rfl Fc F__law_same g__law_same
  | n + 1 => by
    have ih := all__law_same Fc F__law_same g__law_same n
    exact ok__law_same (Nat.le_add_right _ _) Fc F__law_same g__law_same ih
abbrev s_law : Stmt := topS 23
theorem sc_law : FnScope ["_law_script", "_law_k", "_law_tape_here", "_law_things_here", "_law_olds", "_law_news", "_law_slots_here", "_law_kept", "_law_found", "_law_often", "_law_elsewhere", "_law_again", "_law_t", "_law_move", "_law_place"] ["_law_script"] (defScope s_law) := ⟨rfl, rfl, rfl, by decide +kernel, rfl, by decide +kernel, by decide +kernel⟩
noncomputable def m_law_1 : MS := (sSet 2 (mCall f__law_tape [none, none] (mCons (mLift (qVar 0)) (mCons (mLift (qVar 1)) mNil))))
noncomputable def m_law_2 : MS := (sAsg (fTup 4 (fCons (fName 3) (fCons (fName 4) (fCons (fName 5) (fCons (fName 6) fNil))))) (frzM (mCall f__law_two_rows [some 2] (mRef 2 mNil))))
noncomputable def m_law_3 : MS := (sSet 7 (mLift (qCb oStr (qCons (qFz (qLst (qCons (qVar 3) (qCons (qVar 4) (qCons (qVar 5) qNil))))) qNil))))
noncomputable def m_law_4 : MS := (sSet 8 (mCall f_moves [none, none, none] (mCons (mLift (qVar 3)) (mCons (mLift (qVar 4)) (mCons (mLift (qVar 5)) mNil)))))
noncomputable def m_law_5 : MS := (sIf (bLift (qOr (qB (qTmp (qOp oNe (qCall (qOf f__law_played) (qCons (qVar 3) (qCons (qVar 4) (qCons (qVar 8) qNil)))) (qVar 5)))) (qB (qOp oNotB (qCall (qOf f_shows_moves) (qCons (qVar 3) (qCons (qVar 4) (qCons (qVar 5) (qCons (qVar 8) qNil))))) (qC (.bool true)))))) (sRet (mLift (qC (.bool false)))) sNext)
noncomputable def m_law_6 : MS := (sSet 9 (mLift (qFz (qLc (qRng1 (qCons (qCb oLen (qCons (qVar 3) qNil)) qNil)) (fName 12) qYes (qCb oLen (qCons (qFz (qLc (qItA (qVar 8)) (fName 13) (qB (qOp oEq (qOp oIx (qVar 13) (qC (.int 0))) (qVar 12))) (qVar 13) [13])) qNil)) [12]))))
noncomputable def m_law_7 : MS := (sSet 10 (mLift (qFz (qLc (qRng1 (qCons (qCb oLen (qCons (qVar 3) qNil)) qNil)) (fName 12) (qB (qOp oNe (qOp oIx (qVar 4) (qVar 12)) (qOp oIx (qVar 5) (qVar 12)))) (qVar 12) [12]))))
noncomputable def m_law_8 : MS := (sIf (bLift (qOr (qB (qOp oGt (qCb oMax1 (qCons (qOp oAdd (qVar 9) (qFz (qLst (qCons (qC (.int 0)) qNil)))) qNil)) (qC (.int 2)))) (qNot (qB (qCb oAll (qCons (qFz (qLc (qItA (qVar 8)) (fTup 2 (fCons (fName 12) (fCons (fName 14) fNil))) qYes (qOp oIn (qVar 12) (qVar 10)) [12, 14])) qNil)))))) (sRet (mLift (qC (.bool false)))) sNext)
noncomputable def m_law_9 : MS := (sIf (bLift (qAnd (qB (qVar 6)) (qB (qOp oGt (qOp oCnt (qVar 9) (qC (.int 2))) (qOp oDiv (qCb oLen (qCons (qVar 10) qNil)) (qC (.int 2))))))) (sRet (mLift (qC (.bool false)))) sNext)
noncomputable def m_law_10 : MS := (sSet 11 (mLift (qFz (qCb oList (qCons (qVar 8) qNil)))))
noncomputable def m_law_11 : MS := (sDrop (mMt 8 fAppend (mCons (mLift (qTup (qCons (qC (.int 0)) (qCons (qC (.int 0)) qNil)))) mNil)))
noncomputable def m_law_12 : MS := (sIf (bLift (qOr (qNot (qB (qCall (qOf f__law_same) (qCons (qCall (qOf f_moves) (qCons (qVar 3) (qCons (qVar 4) (qCons (qVar 5) qNil)))) (qCons (qVar 11) qNil))))) (qB (qOp oNe (qCb oStr (qCons (qFz (qLst (qCons (qVar 3) (qCons (qVar 4) (qCons (qVar 5) qNil))))) qNil)) (qVar 7))))) (sRet (mLift (qC (.bool false)))) sNext)
noncomputable def m_law_13 : MS := (sFor (iLift (qRng1 (qCons (qCb oMax2 (qCons (qC (.int 1)) (qCons (qCb oMin2 (qCons (qC (.int 4)) (qCons (qCb oLen (qCons (qVar 0) qNil)) qNil))) qNil))) qNil))) (fName 1) (sSeq m_law_1 (sSeq m_law_2 (sSeq m_law_3 (sSeq m_law_4 (sSeq m_law_5 (sSeq m_law_6 (sSeq m_law_7 (sSeq m_law_8 (sSeq m_law_9 (sSeq m_law_10 (sSeq (sDrop (mMt0 8 fRev)) (sSeq m_law_11 m_law_12)))))))))))))
noncomputable def m_law_14 : MS := (sRet (mLift (qOp oEq (qCall (qOf f_moves) (qCons (qTup qNil) (qCons (qFz (qLst qNil)) (qCons (qFz (qLst qNil)) qNil)))) (qFz (qLst qNil)))))
noncomputable def m_law : MS := (sSeq m_law_13 m_law_14)
noncomputable def f_law : List O → FR := defN 14 [false] m_law
theorem ok_law {f : Addr} {fd : FuncData} (Fc : Fct mg) (F : FunD K "law" "law" (defArgs s_law) (defBody s_law) (defScope s_law) [] [] f fd) (c__law_tape : CalG P w K mg base 1 "_law_tape" (spM ⟨K, cl⟩ 2 f__law_tape)) (c__law_two_rows : CalG P w K mg base 3 "_law_two_rows" (spM ⟨K, cl⟩ 1 f__law_two_rows)) (c_moves : CalG P w K mg base 5 "moves" (spM ⟨K, cl⟩ 3 f_moves)) (c__law_played : CalG P w K mg base 2 "_law_played" (spM ⟨K, cl⟩ 3 f__law_played)) (c_shows_moves : CalG P w K mg base 4 "shows_moves" (spM ⟨K, cl⟩ 4 f_shows_moves)) (c__law_same : CalG P w K mg base 45 "_law_same" (spM ⟨K, cl⟩ 2 f__law_same)) : FnG P w K mg base (CXg P w) 46 f fd ["_law_script"] (spM ⟨K, cl⟩ 1 f_law) := by
  refine def_okN (io := [false]) (more := 14) (m := m_law) F sc_law rfl rfl ?_
  intro cdv A outer s H E hr
  exact ⟨_, _, (pss_cons (ps_for PassesOwn.never rfl (pi_range1 rfl Fc.f_range (pa_cons (pe_callB (call_max2 rfl) rfl Fc.f_max (by rfl) (pa_cons pe_int (pa_cons (pe_callB (call_min2 rfl) rfl Fc.f_min (by rfl) (pa_cons pe_int (pa_cons (pe_callB call_lenU rfl Fc.f_len (by rfl) (pa_cons (pv 0) pa_nil)) pa_nil))) pa_nil))) pa_nil)) (pg_name (i := 1) sc_law.nd rfl (.inl rfl)) (pss_cons (ps_set (i := 2) sc_law.nd rfl (.inl rfl) (pe_g c__law_tape hr (by decide) passL rfl (pa_cons (pv 0) (pa_cons (pv 1) pa_nil)))) (pss_cons (ps_asg (pe_g c__law_two_rows hr (by decide) passL rfl (pa_cons (pv 2) pa_nil)) (pg_tup rfl (pgs_cons (pg_name (i := 3) sc_law.nd rfl (.inl rfl)) (pgs_cons (pg_name (i := 4) sc_law.nd rfl (.inr rfl)) (pgs_cons (pg_name (i := 5) sc_law.nd rfl (.inr rfl)) (pgs_cons (pg_name (i := 6) sc_law.nd rfl (.inl rfl)) pgs_nil)))))) (pss_cons (ps_set (i := 7) sc_law.nd rfl (.inl rfl) (pe_callTy (call_strU hr.gd hr.u68) rfl Fc.f_str (by rfl) (pa_cons (pe_lst (pa_cons (pv 3) (pa_cons (pv 4) (pa_cons (pv 5) pa_nil)))) pa_nil))) (pss_cons (ps_set (i := 8) sc_law.nd rfl (.inr rfl) (pe_g c_moves hr (by decide) passL rfl (pa_cons (pv 3) (pa_cons (pv 4) (pa_cons (pv 5) pa_nil))))) (pss_cons (ps_if (PW.pt (pw_or (pt_cmpR (op_neU hr.u64) (pe_g c__law_played.quiet hr (by decide) passL rfl (pa_cons (pv 3) (pa_cons (pv 4) (pa_cons (pv 8) pa_nil)))) (pv 5) (nomark _)) (pw_or1 (pt_cmpR op_notBl (pe_g c_shows_moves.quiet hr (by decide) passL rfl (pa_cons (pv 3) (pa_cons (pv 4) (pa_cons (pv 5) (pa_cons (pv 8) pa_nil))))) pe_bl (nomark _))))) (pss_one (ps_ret pe_bl)) pss_nil) (pss_cons (ps_setLc (i := 9) (own := [("_law_t", 12)]) rfl sc_law.nd rfl rfl (sw_true rfl rfl rfl (by decide +kernel)) (pi_range1 rfl Fc.f_range (pa_cons (pe_callB call_lenU rfl Fc.f_len (by rfl) (pa_cons (pv 3) pa_nil)) pa_nil)) (blkOk_by (N := ["_law_script", "_law_k", "_law_tape_here", "_law_things_here", "_law_olds", "_law_news", "_law_slots_here", "_law_kept", "_law_found", "_law_often", "_law_elsewhere", "_law_again", "_law_t", "_law_move", "_law_place"]) (sc := defScope s_law) (own := [("_law_t", 12)]) (by decide +kernel)) (fun _ _ _ _ _ => (pg_name (i := 12) sc_law.nd rfl (.inr rfl))) (fun _ _ _ _ _ => pts_nil) (fun _ _ _ _ _ => (pe_callB call_lenU rfl Fc.f_len (by rfl) (pa_cons (pe_lc (own := [("_law_move", 13)]) rfl sc_law.nd (pi_any (pv 8)) (blkOk_rel (blkOk_by (N := ["_law_script", "_law_k", "_law_tape_here", "_law_things_here", "_law_olds", "_law_news", "_law_slots_here", "_law_kept", "_law_found", "_law_often", "_law_elsewhere", "_law_again", "_law_t", "_law_move", "_law_place"]) (sc := { kind := ScopeKind.function, names := [(Str.ofString ".0", NameKind.local), (Str.ofString "_law_t", NameKind.cell), (Str.ofString "len", NameKind.globalImplicit), (Str.ofString "_law_found", NameKind.free)], isGenerator := false, isCoroutine := false }) (own := [("_law_move", 13)]) (by decide +kernel))) (fun _ _ _ _ _ => (pg_name (i := 13) sc_law.nd rfl (.inl rfl))) (fun _ _ _ _ _ => pts_one (pt_cmpR (op_eqU hr.u64) (pe_ix (ix_U hr.u1) (pv 13) pe_int (fun _ _ => rfl)) (pv 12) (nomark _))) (fun _ _ _ _ _ => (pv 13))) pa_nil)))) (pss_cons (ps_set (i := 10) sc_law.nd rfl (.inr rfl) (pe_lc (own := [("_law_t", 12)]) rfl sc_law.nd (pi_range1 rfl Fc.f_range (pa_cons (pe_callB call_lenU rfl Fc.f_len (by rfl) (pa_cons (pv 3) pa_nil)) pa_nil)) (blkOk_by (N := ["_law_script", "_law_k", "_law_tape_here", "_law_things_here", "_law_olds", "_law_news", "_law_slots_here", "_law_kept", "_law_found", "_law_often", "_law_elsewhere", "_law_again", "_law_t", "_law_move", "_law_place"]) (sc := defScope s_law) (own := [("_law_t", 12)]) (by decide +kernel)) (fun _ _ _ _ _ => (pg_name (i := 12) sc_law.nd rfl (.inl rfl))) (fun _ _ _ _ _ => pts_one (pt_cmpR (op_neU hr.u64) (pe_ix (ix_U hr.u1) (pv 4) (pv 12) (fun _ _ => rfl)) (pe_ix (ix_U hr.u1) (pv 5) (pv 12) (fun _ _ => rfl)) (nomark _))) (fun _ _ _ _ _ => (pv 12)))) (pss_cons (ps_if (PW.pt (pw_or (pt_cmpR op_gt (pe_callB (cr_max rfl) rfl Fc.f_max (by rfl) (pa_cons (pe_op op_addU (pv 9) (pe_lst (pa_cons pe_int pa_nil))) pa_nil)) pe_int (nomark _)) (pw_or1 (pt_not (pt_val (pe_callB (cr_all rfl) rfl Fc.f_all (by rfl) (pa_cons (pe_lc (own := [("_law_t", 12), ("_law_place", 14)]) rfl sc_law.nd (pi_any (pv 8)) (blkOk_by (N := ["_law_script", "_law_k", "_law_tape_here", "_law_things_here", "_law_olds", "_law_news", "_law_slots_here", "_law_kept", "_law_found", "_law_often", "_law_elsewhere", "_law_again", "_law_t", "_law_move", "_law_place"]) (sc := defScope s_law) (own := [("_law_t", 12), ("_law_place", 14)]) (by decide +kernel)) (fun _ _ _ _ _ => (pg_tup rfl (pgs_cons (pg_name (i := 12) sc_law.nd rfl (.inl rfl)) (pgs_cons (pg_name (i := 14) sc_law.nd rfl (.inl rfl)) pgs_nil)))) (fun _ _ _ _ _ => pts_nil) (fun _ _ _ _ _ => (pe_cmpR (op_inU hr.u65) (pv 12) (pv 10) (by with_unfolding_all rfl)))) pa_nil))))))) (pss_one (ps_ret pe_bl)) pss_nil) (pss_cons (ps_if (PW.pt (pw_and (pt_val (pv 6)) (pw_and1 (pt_cmpR op_gt (pe_bm PySem.F.plainAttrs_list PySem.F.slot_list_count PySem.F.type_list_count mt_lcount (pv 9) (pa_cons pe_int pa_nil)) (pe_op op_fdivW (pe_callB call_lenU rfl Fc.f_len (by rfl) (pa_cons (pv 10) pa_nil)) pe_int) (nomark _))))) (pss_one (ps_ret pe_bl)) pss_nil) (pss_cons (ps_set (i := 11) sc_law.nd rfl (.inl rfl) (pe_callTy call_list_of rfl Fc.f_list (by rfl) (pa_cons (pv 8) pa_nil))) (pss_cons (ps_expr (pe_bm0 PySem.F.plainAttrs_list PySem.F.slot_list_reverse PySem.F.type_list_reverse mt_reverse (pv 8))) (pss_cons (ps_expr (pe_bm PySem.F.plainAttrs_list PySem.F.slot_list_append PySem.F.type_list_append mt_append (pv 8) (pa_cons (pe_tup (pa_cons pe_int (pa_cons pe_int pa_nil))) pa_nil))) (pss_one (ps_if (PW.pt (pw_or (pt_not (pt_val (pe_g c__law_same.quiet hr (by decide) passL rfl (pa_cons (pe_g c_moves.quiet hr (by decide) passL rfl (pa_cons (pv 3) (pa_cons (pv 4) (pa_cons (pv 5) pa_nil)))) (pa_cons (pv 11) pa_nil))))) (pw_or1 (pt_cmpR (op_neU hr.u64) (pe_callTy (call_strU hr.gd hr.u68) rfl Fc.f_str (by rfl) (pa_cons (pe_lst (pa_cons (pv 3) (pa_cons (pv 4) (pa_cons (pv 5) pa_nil)))) pa_nil)) (pv 7) (nomark _))))) (pss_one (ps_ret pe_bl)) pss_nil))))))))))))))) (pss_one (ps_ret (pe_cmpR (op_eqU hr.u64) (pe_g c_moves.quiet hr (by decide) passL rfl (pa_cons (pe_tup pa_nil) (pa_cons (pe_lst pa_nil) (pa_cons (pe_lst pa_nil) pa_nil)))) (pe_lst pa_nil) (nomark _))))), (tsm_seq (tsm_for (tim_lift (tif_rng1 (tav_cons (tev_cb (tav_cons (tev_c fun _ => .int _) (tav_cons (tev_cb (tav_cons (tev_c fun _ => .int _) (tav_cons (tev_cb (tav_cons (tev_var (i := 0)) tav_nil) cb_len) tav_nil)) cb_min2) tav_nil)) cb_max2) tav_nil))) tgq_name (tsm_seq (tsm_set (tem_call rfl (tam_val (tem_lift (tev_var (i := 0))) (tam_val (tem_lift (tev_var (i := 1))) tam_nil)))) (tsm_seq (tsm_asg (tgq_tup (tgsq_cons tgq_name (tgsq_cons tgq_name (tgsq_cons tgq_name (tgsq_cons tgq_name tgsq_nil))))) (tem_frz (tem_call rfl (tam_ref tam_nil)))) (tsm_seq (tsm_set (tem_lift (tev_cb (tav_cons (tev_n (ten_lst (tav_cons (tev_var (i := 3)) (tav_cons (tev_var (i := 4)) (tav_cons (tev_var (i := 5)) tav_nil))))) tav_nil) cb_str))) (tsm_seq (tsm_set (tem_call rfl (tam_val (tem_lift (tev_var (i := 3))) (tam_val (tem_lift (tev_var (i := 4))) (tam_val (tem_lift (tev_var (i := 5))) tam_nil))))) (tsm_seq (tsm_if (ttm_lift (ttv_or (ttv_test (tev_tmp (tev_op (tev_call (qlen_cons (qlen_cons (qlen_cons qlen_nil))) (tav_cons (tev_var (i := 3)) (tav_cons (tev_var (i := 4)) (tav_cons (tev_var (i := 8)) tav_nil)))) (tev_var (i := 5)) ov_ne))) (ttv_test (tev_op (tev_call (qlen_cons (qlen_cons (qlen_cons (qlen_cons qlen_nil)))) (tav_cons (tev_var (i := 3)) (tav_cons (tev_var (i := 4)) (tav_cons (tev_var (i := 5)) (tav_cons (tev_var (i := 8)) tav_nil))))) (tev_c fun _ => .bl _) ov_notB)))) (tsm_ret (tem_lift (tev_c fun _ => .bl _))) tsm_next) (tsm_seq (tsm_set (tem_lift (tev_n (ten_lc (TIf.v (tif_rng1 (tav_cons (tev_cb (tav_cons (tev_var (i := 3)) tav_nil) cb_len) tav_nil))) tgq_name (by decide) ttv_yes (tev_cb (tav_cons (tev_n (ten_lc (tiv_any (tev_var (i := 8))) tgq_name (by decide) (ttv_test (tev_op (tev_op (tev_var (i := 13)) (tev_c fun _ => .int _) ov_ix) (tev_var (i := 12)) ov_eq)) (tev_var (i := 13)))) tav_nil) cb_len))))) (tsm_seq (tsm_set (tem_lift (tev_n (ten_lc (TIf.v (tif_rng1 (tav_cons (tev_cb (tav_cons (tev_var (i := 3)) tav_nil) cb_len) tav_nil))) tgq_name (by decide) (ttv_test (tev_op (tev_op (tev_var (i := 4)) (tev_var (i := 12)) ov_ix) (tev_op (tev_var (i := 5)) (tev_var (i := 12)) ov_ix) ov_ne)) (tev_var (i := 12)))))) (tsm_seq (tsm_if (ttm_lift (ttv_or (ttv_test (tev_op (tev_cb (tav_cons (tev_op (tev_var (i := 9)) (tev_n (ten_lst (tav_cons (tev_c fun _ => .int _) tav_nil))) ov_add) tav_nil) cb_max1) (tev_c fun _ => .int _) ov_gt)) (ttv_not (ttv_B (tev_cb (tav_cons (tev_n (ten_lc (tiv_any (tev_var (i := 8))) (tgq_tup (tgsq_cons tgq_name (tgsq_cons tgq_name tgsq_nil))) (by decide) ttv_yes (tev_op (tev_var (i := 12)) (tev_var (i := 10)) ov_in))) tav_nil) cb_all))))) (tsm_ret (tem_lift (tev_c fun _ => .bl _))) tsm_next) (tsm_seq (tsm_if (ttm_lift (ttv_and (ttv_B (tev_var (i := 6))) (ttv_test (tev_op (tev_cnt (tev_var (i := 9)) (tev_c fun _ => .int _)) (tev_op (tev_cb (tav_cons (tev_var (i := 10)) tav_nil) cb_len) (tev_c fun _ => .int _) ov_div) ov_gt)))) (tsm_ret (tem_lift (tev_c fun _ => .bl _))) tsm_next) (tsm_seq (tsm_set (tem_lift (tev_n (ten_cb (tav_cons (tev_var (i := 8)) tav_nil) cn_list)))) (tsm_seq (tsm_drop (tem_mt0 lm_rev)) (tsm_seq (tsm_drop (tem_mt (tam_val (tem_lift (tev_tup (tav_cons (tev_c fun _ => .int _) (tav_cons (tev_c fun _ => .int _) tav_nil)))) tam_nil) lm_append)) (tsm_if (ttm_lift (ttv_or (ttv_not (ttv_B (tev_call (qlen_cons (qlen_cons qlen_nil)) (tav_cons (tev_call (qlen_cons (qlen_cons (qlen_cons qlen_nil))) (tav_cons (tev_var (i := 3)) (tav_cons (tev_var (i := 4)) (tav_cons (tev_var (i := 5)) tav_nil)))) (tav_cons (tev_var (i := 11)) tav_nil))))) (ttv_test (tev_op (tev_cb (tav_cons (tev_n (ten_lst (tav_cons (tev_var (i := 3)) (tav_cons (tev_var (i := 4)) (tav_cons (tev_var (i := 5)) tav_nil))))) tav_nil) cb_str) (tev_var (i := 7)) ov_ne)))) (tsm_ret (tem_lift (tev_c fun _ => .bl _))) tsm_next)))))))))))))) (tsm_ret (tem_lift (tev_op (tev_call (qlen_cons (qlen_cons (qlen_cons qlen_nil))) (tav_cons (tev_tup tav_nil) (tav_cons (tev_n (ten_lst tav_nil)) (tav_cons (tev_n (ten_lst tav_nil)) tav_nil)))) (tev_n (ten_lst tav_nil)) ov_eq)))), by decide⟩
end
def d__law_tape : He.DefD := ⟨("_law_tape", none), "_law_tape", "_law_tape", defArgs s__law_tape, defBody s__law_tape, defScope s__law_tape, [], []⟩
def d__law_draw : He.DefD := ⟨("_law_draw", none), "_law_draw", "_law_draw", defArgs s__law_draw, defBody s__law_draw, defScope s__law_draw, [], []⟩
def d__law_slots : He.DefD := ⟨("_law_slots", none), "_law_slots", "_law_slots", defArgs s__law_slots, defBody s__law_slots, defScope s__law_slots, [], []⟩
def d__law_things : He.DefD := ⟨("_law_things", none), "_law_things", "_law_things", defArgs s__law_things, defBody s__law_things, defScope s__law_things, [], []⟩
def d__law_up : He.DefD := ⟨("_law_up", none), "_law_up", "_law_up", defArgs s__law_up, defBody s__law_up, defScope s__law_up, [], []⟩
def d__law_apart : He.DefD := ⟨("_law_apart", none), "_law_apart", "_law_apart", defArgs s__law_apart, defBody s__law_apart, defScope s__law_apart, [], []⟩
def d__law_two_rows : He.DefD := ⟨("_law_two_rows", none), "_law_two_rows", "_law_two_rows", defArgs s__law_two_rows, defBody s__law_two_rows, defScope s__law_two_rows, [], []⟩
def d_end_of : He.DefD := ⟨("end_of", none), "end_of", "end_of", defArgs s_end_of, defBody s_end_of, defScope s_end_of, [], []⟩
def d_lie_over : He.DefD := ⟨("lie_over", none), "lie_over", "lie_over", defArgs s_lie_over, defBody s_lie_over, defScope s_lie_over, [], []⟩
def d_is_free : He.DefD := ⟨("is_free", none), "is_free", "is_free", defArgs s_is_free, defBody s_is_free, defScope s_is_free, [], []⟩
def d_height : He.DefD := ⟨("height", none), "height", "height", defArgs s_height, defBody s_height, defScope s_height, [], []⟩
def d_rounded : He.DefD := ⟨("rounded", none), "rounded", "rounded", defArgs s_rounded, defBody s_rounded, defScope s_rounded, [], []⟩
def d_next_move : He.DefD := ⟨("next_move", none), "next_move", "next_move", defArgs s_next_move, defBody s_next_move, defScope s_next_move, [], []⟩
def d_moves : He.DefD := ⟨("moves", none), "moves", "moves", defArgs s_moves, defBody s_moves, defScope s_moves, [], []⟩
def d__law_over : He.DefD := ⟨("_law_over", none), "_law_over", "_law_over", defArgs s__law_over, defBody s__law_over, defScope s__law_over, [], []⟩
def d__law_played : He.DefD := ⟨("_law_played", none), "_law_played", "_law_played", defArgs s__law_played, defBody s__law_played, defScope s__law_played, [], []⟩
def d_is_number : He.DefD := ⟨("is_number", none), "is_number", "is_number", defArgs s_is_number, defBody s_is_number, defScope s_is_number, [], []⟩
def d_is_move : He.DefD := ⟨("is_move", none), "is_move", "is_move", defArgs s_is_move, defBody s_is_move, defScope s_is_move, [], []⟩
def d_shows_moves : He.DefD := ⟨("shows_moves", none), "shows_moves", "shows_moves", defArgs s_shows_moves, defBody s_shows_moves, defScope s_shows_moves, [], []⟩
def d__law_same : He.DefD := ⟨("_law_same", none), "_law_same", "_law_same", defArgs s__law_same, defBody s__law_same, defScope s__law_same, [], []⟩
def d_law : He.DefD := ⟨("law", none), "law", "law", defArgs s_law, defBody s_law, defScope s_law, [], []⟩
def hfn : List He.DefD := ([d__law_tape, d__law_draw, d__law_slots, d__law_things, d__law_up, d__law_apart, d__law_two_rows, d_end_of, d_lie_over, d_is_free, d_height, d_rounded] : List He.DefD) ++ ([d_next_move, d_moves, d__law_over, d__law_played, d_is_number, d_is_move, d_shows_moves, d__law_same, d_law] : List He.DefD)
def hfa : List He.Fa := ([.glo "_law_tape", .glo "_law_draw", .glo "_law_slots", .glo "_law_things", .glo "_law_up", .glo "_law_apart", .glo "_law_two_rows", .glo "end_of", .glo "lie_over", .glo "is_free", .glo "height", .glo "rounded"] : List He.Fa) ++ ([.glo "next_move", .glo "moves", .glo "_law_over", .glo "_law_played", .glo "is_number", .glo "is_move", .glo "shows_moves", .glo "_law_same", .glo "law", .free "abs", .free "all", .free "bool"] : List He.Fa) ++ ([.free "enumerate", .free "int", .free "isinstance", .free "len", .free "list", .free "max", .free "min", .free "range", .free "str", .free "tuple", .free "zip"] : List He.Fa)
def hloose : List PySem.Str := (["is_number", "rounded", "end_of", "lie_over", "height", "is_free", "next_move", "moves", "is_move", "shows_moves", "_law_tape", "_law_draw"] : List PySem.Str) ++ (["_law_things", "_law_same", "_law_up", "_law_apart", "_law_slots", "_law_two_rows", "_law_over", "_law_played"] : List PySem.Str)
abbrev hR : PySem.W.OpenRow := PySem.W.OpenLaw.row PySem.Challenge.rw_frameshare_k46_moves_that_lose_nothing
abbrev hhk : PySem.W.Hook := He.hookD 6 hfa hfn
def hob (s : PySem.W.SharedT) : He.AlD := He.obsDG 6 hfa hfn (HandSHeadRun.getT s)
theorem hob_eq (s : PySem.W.SharedT) : hob s = hhk.obs s.abs := He.obsDG_eq (HandSHeadRun.getT_eq s)
theorem hrun (w : World) : HandSHeadRun.RunEq hR (PySem.W.view hR.prog [23]) hhk hob 2000 hloose w := by
  intro os
  kernel_rfl
theorem hfacts {P : Program} {w : World} {K : Frag} {h : Heap} {mg : Str → Option Value} {f : Addr} (X : K.In h) (G : h.Ns mainGlobals mg) (hf : mg ("law" : Str) = some (.ref f)) (c : He.SaysD hfa hfn K) :
    ∃ fd : FuncData, (∀ (s : Shared) (v : Value), BindsTo s fd ⟨[v], []⟩ [("_law_script", v)]) ∧ ∀ base : Heap, FnG P w K mg base (CXg P w) 46 f fd ["_law_script"] (spM ⟨K, fun _ => 0⟩ 1 f_law) := by
  have Fc : Fct mg := ⟨He.free_ok X G (c.fact 21 (f := .free "abs") rfl), He.free_ok X G (c.fact 22 (f := .free "all") rfl), He.free_ok X G (c.fact 23 (f := .free "bool") rfl), He.free_ok X G (c.fact 24 (f := .free "enumerate") rfl), He.free_ok X G (c.fact 25 (f := .free "int") rfl), He.free_ok X G (c.fact 26 (f := .free "isinstance") rfl), He.free_ok X G (c.fact 27 (f := .free "len") rfl), He.free_ok X G (c.fact 28 (f := .free "list") rfl), He.free_ok X G (c.fact 29 (f := .free "max") rfl), He.free_ok X G (c.fact 30 (f := .free "min") rfl), He.free_ok X G (c.fact 31 (f := .free "range") rfl), He.free_ok X G (c.fact 32 (f := .free "str") rfl), He.free_ok X G (c.fact 33 (f := .free "tuple") rfl), He.free_ok X G (c.fact 34 (f := .free "zip") rfl)⟩
  obtain ⟨fd__law_tape, F__law_tape⟩ := c.def_ 0 (d := d__law_tape) rfl
  obtain ⟨fd__law_draw, F__law_draw⟩ := c.def_ 1 (d := d__law_draw) rfl
  obtain ⟨fd__law_slots, F__law_slots⟩ := c.def_ 2 (d := d__law_slots) rfl
  obtain ⟨fd__law_things, F__law_things⟩ := c.def_ 3 (d := d__law_things) rfl
  obtain ⟨fd__law_up, F__law_up⟩ := c.def_ 4 (d := d__law_up) rfl
  obtain ⟨fd__law_apart, F__law_apart⟩ := c.def_ 5 (d := d__law_apart) rfl
  obtain ⟨fd__law_two_rows, F__law_two_rows⟩ := c.def_ 6 (d := d__law_two_rows) rfl
  obtain ⟨fd_end_of, F_end_of⟩ := c.def_ 7 (d := d_end_of) rfl
  obtain ⟨fd_lie_over, F_lie_over⟩ := c.def_ 8 (d := d_lie_over) rfl
  obtain ⟨fd_is_free, F_is_free⟩ := c.def_ 9 (d := d_is_free) rfl
  obtain ⟨fd_height, F_height⟩ := c.def_ 10 (d := d_height) rfl
  obtain ⟨fd_rounded, F_rounded⟩ := c.def_ 11 (d := d_rounded) rfl
  obtain ⟨fd_next_move, F_next_move⟩ := c.def_ 12 (d := d_next_move) rfl
  obtain ⟨fd_moves, F_moves⟩ := c.def_ 13 (d := d_moves) rfl
  obtain ⟨fd__law_over, F__law_over⟩ := c.def_ 14 (d := d__law_over) rfl
  obtain ⟨fd__law_played, F__law_played⟩ := c.def_ 15 (d := d__law_played) rfl
  obtain ⟨fd_is_number, F_is_number⟩ := c.def_ 16 (d := d_is_number) rfl
  obtain ⟨fd_is_move, F_is_move⟩ := c.def_ 17 (d := d_is_move) rfl
  obtain ⟨fd_shows_moves, F_shows_moves⟩ := c.def_ 18 (d := d_shows_moves) rfl
  obtain ⟨fd__law_same, F__law_same⟩ := c.def_ 19 (d := d__law_same) rfl
  obtain ⟨fd_law, F_law⟩ := c.def_ 20 (d := d_law) rfl
  have e := hf.symm.trans (He.glo_ok X G (c.fact 20 (f := .glo "law") rfl))
  cases e
  refine ⟨fd_law, fun s v => FunD.bindsA (ps := ["_law_script"]) F_law (fun _ _ _ _ _ _ us hl => match us, hl with | [_], _ => rfl) s [v] rfl, fun base => ?_⟩
  have c__law_tape := ok__law_tape (P := P) (w := w) (base := base) (cl := fun _ => 0) Fc F__law_tape (He.glo_ok X G (c.fact 0 (f := .glo "_law_tape") rfl))
  have c__law_draw := ok__law_draw (P := P) (w := w) (base := base) (cl := fun _ => 0) Fc F__law_draw (He.glo_ok X G (c.fact 1 (f := .glo "_law_draw") rfl))
  have c__law_slots := ok__law_slots (P := P) (w := w) (base := base) (cl := fun _ => 0) Fc F__law_slots (He.glo_ok X G (c.fact 2 (f := .glo "_law_slots") rfl)) c__law_draw
  have c__law_things := ok__law_things (P := P) (w := w) (base := base) (cl := fun _ => 0) Fc F__law_things (He.glo_ok X G (c.fact 3 (f := .glo "_law_things") rfl)) c__law_draw
  have c__law_up := ok__law_up (P := P) (w := w) (base := base) (cl := fun _ => 0) Fc F__law_up (He.glo_ok X G (c.fact 4 (f := .glo "_law_up") rfl))
  have c__law_apart := ok__law_apart (P := P) (w := w) (base := base) (cl := fun _ => 0) Fc F__law_apart (He.glo_ok X G (c.fact 5 (f := .glo "_law_apart") rfl)) c__law_up c__law_draw
  have c__law_two_rows := ok__law_two_rows (P := P) (w := w) (base := base) (cl := fun _ => 0) Fc F__law_two_rows (He.glo_ok X G (c.fact 6 (f := .glo "_law_two_rows") rfl)) c__law_draw c__law_slots c__law_things c__law_apart c__law_up
  have c_end_of := ok_end_of (P := P) (w := w) (base := base) (cl := fun _ => 0) Fc F_end_of (He.glo_ok X G (c.fact 7 (f := .glo "end_of") rfl))
  have c_lie_over := ok_lie_over (P := P) (w := w) (base := base) (cl := fun _ => 0) Fc F_lie_over (He.glo_ok X G (c.fact 8 (f := .glo "lie_over") rfl)) c_end_of
  have c_is_free := ok_is_free (P := P) (w := w) (base := base) (cl := fun _ => 0) Fc F_is_free (He.glo_ok X G (c.fact 9 (f := .glo "is_free") rfl)) c_lie_over
  have c_height := ok_height (P := P) (w := w) (base := base) (cl := fun _ => 0) Fc F_height (He.glo_ok X G (c.fact 10 (f := .glo "height") rfl)) c_end_of
  have c_rounded := ok_rounded (P := P) (w := w) (base := base) (cl := fun _ => 0) Fc F_rounded (He.glo_ok X G (c.fact 11 (f := .glo "rounded") rfl))
  have c_next_move := ok_next_move (P := P) (w := w) (base := base) (cl := fun _ => 0) Fc F_next_move (He.glo_ok X G (c.fact 12 (f := .glo "next_move") rfl)) c_is_free c_height c_rounded
  have c_moves := ok_moves (P := P) (w := w) (base := base) (cl := fun _ => 0) Fc F_moves (He.glo_ok X G (c.fact 13 (f := .glo "moves") rfl)) c_next_move
  have c__law_over := ok__law_over (P := P) (w := w) (base := base) (cl := fun _ => 0) Fc F__law_over (He.glo_ok X G (c.fact 14 (f := .glo "_law_over") rfl))
  have c__law_played := ok__law_played (P := P) (w := w) (base := base) (cl := fun _ => 0) Fc F__law_played (He.glo_ok X G (c.fact 15 (f := .glo "_law_played") rfl)) c__law_over
  have c_is_number := ok_is_number (P := P) (w := w) (base := base) (cl := fun _ => 0) Fc F_is_number (He.glo_ok X G (c.fact 16 (f := .glo "is_number") rfl))
  have c_is_move := ok_is_move (P := P) (w := w) (base := base) (cl := fun _ => 0) Fc F_is_move (He.glo_ok X G (c.fact 17 (f := .glo "is_move") rfl)) c_is_number
  have c_shows_moves := ok_shows_moves (P := P) (w := w) (base := base) (cl := fun _ => 0) Fc F_shows_moves (He.glo_ok X G (c.fact 18 (f := .glo "shows_moves") rfl)) c_is_move c_is_free
  have cg__law_same := all__law_same (P := P) (w := w) (base := base) (cl := fun _ => 0) Fc F__law_same (He.glo_ok X G (c.fact 19 (f := .glo "_law_same") rfl)) 45
  have c__law_same : CalG P w K mg base 45 "_law_same" (spM ⟨K, fun _ => 0⟩ 2 f__law_same) := cg__law_same
  exact ok_law Fc F_law c__law_tape c__law_two_rows c_moves c__law_played c_shows_moves c__law_same
end FM
namespace FM
open PySem PySem.Spec L2 PyProof.Rows
theorem same_grp : ∀ (n : Nat) {d : PD}, plainD n d → wF (grp__law_same (n + 1) 0 [.fz d, .fz d]) fun o _ => o = .fz (.bool true)
  | n, d, hd => by
    rw [grp__law_same]
    unfold m__law_same
    cases d with
    | none => simp [wS_seq]
    | bool b => simp [wS_seq]
    | int i => simp [wS_seq]
    | str x => simp [wS_seq]
    | list ds =>
      cases n with
      | zero => exact hd.elim
      | succ n =>
        have hd : ds.length ≤ sizeLine ∧ ∀ x ∈ ds, plainD n x := hd
        have hl : lcGo (fTup 2 (fCons (fName 2) (fCons (fName 3) fNil))) qYes (qCall (qOf (grp__law_same (n + 1) 0)) (qCons (qVar 2) (qCons (qVar 3) qNil))) [.fz (.list ds), .fz (.list ds), .dead, .dead] (ds.map fun x => pairD x x) = some ((ds.map fun x => pairD x x).map fun _ => .bool true) := by
          refine lcGo_map fun x m => ?_
          obtain ⟨y, m2, rfl⟩ := List.mem_map.mp m
          have ih := qof_of (f := grp__law_same (n + 1) 0) (ds := [y, y]) (d := .bool true) (wF_mono (same_grp n (hd.2 y m2)) fun o ρ e => by rw [e]; rfl)
          simp [pairD, qCall, ih]
        rw [List.map_map] at hl
        have hb := boolsD_true ds
        simp [wS_seq, zip_self, hl, hd.1, hb, Function.comp_def]
    | tuple ds =>
      cases n with
      | zero => exact hd.elim
      | succ n =>
        have hd : ds.length ≤ sizeLine ∧ ∀ x ∈ ds, plainD n x := hd
        have hl : lcGo (fTup 2 (fCons (fName 2) (fCons (fName 3) fNil))) qYes (qCall (qOf (grp__law_same (n + 1) 0)) (qCons (qVar 2) (qCons (qVar 3) qNil))) [.fz (.tuple ds), .fz (.tuple ds), .dead, .dead] (ds.map fun x => pairD x x) = some ((ds.map fun x => pairD x x).map fun _ => .bool true) := by
          refine lcGo_map fun x m => ?_
          obtain ⟨y, m2, rfl⟩ := List.mem_map.mp m
          have ih := qof_of (f := grp__law_same (n + 1) 0) (ds := [y, y]) (d := .bool true) (wF_mono (same_grp n (hd.2 y m2)) fun o ρ e => by rw [e]; rfl)
          simp [pairD, qCall, ih]
        rw [List.map_map] at hl
        have hb := boolsD_true ds
        simp [wS_seq, zip_self, hl, hd.1, hb, Function.comp_def]
    | _ => cases n <;> exact hd.elim
theorem q_same {d : PD} (h : plainD 44 d) : qOf f__law_same [d, d] = some (.bool true) :=
  qof_of (wF_mono (same_grp 44 h) fun o ρ e => by rw [e]; rfl)
def tpO (a s c : Int) : O := .lst [.int a, .int s, .int c]
theorem draw_spec {a s c m : Int} {n : Nat} {Q : O → List O → Prop} (ha : 0 ≤ a) (hs : 0 ≤ s) (hs2 : s < 2 ^ 62) (hc : 0 ≤ c) (hc2 : c ≤ n) (hn : n < 2 ^ 40) (hm : 0 < m) (hm2 : m < 2 ^ 200)
    (h : ∀ r a' c', 0 ≤ r → r < m → 0 ≤ a' → 0 ≤ c' → c' ≤ ((n + 1 : Nat) : Int) → Q (.fz (.int r)) [.lst [.int a', .int s, .int c'], .dead]) : wF (f__law_draw [.lst [.int a, .int s, .int c], .fz (.int m)]) Q := by
  unfold f__law_draw m__law_draw
  simp (maxSteps := 2000000) (disch := omega) [wS_seq, List.getElem?_cons_zero, qOp, qB, qCons, qNil, ixN, oMod_i, oDiv_i, oPow_i, oMul_l, oMul_r]
  refine ⟨fun h0 => ?_, fun h0 => ?_⟩
  · exact h _ _ _ (Int.emod_nonneg _ (by omega)) (Int.emod_lt_of_pos _ hm) (Int.ediv_nonneg ha (by omega)) hc (by omega)
  · exact h _ _ _ (Int.emod_nonneg _ (by omega)) (Int.emod_lt_of_pos _ hm) ha (by omega) (by omega)
theorem tape_spec {ns : List Int} {k : Int} {Q : O → List O → Prop} (h0 : 0 ≤ k) (h1 : k ≤ 100) (h : ∀ a s, 0 ≤ a → 0 ≤ s → s < 2 ^ 62 → Q (.lst [.int a, .int s, .int 0]) [.dead, .dead]) : wF (f__law_tape [.fz (.list (ns.map .int)), .fz (.int k)]) Q := by
  unfold f__law_tape m__law_tape
  simp (maxSteps := 2000000) (disch := omega) [wS_seq, List.getElem?_cons_zero, qOp, qB, qCons, qNil, qIf, qCb, qLst, ixN, oMod_i, oDiv_i, oPow_i, oMul_l, oMul_r]
  have hc : ∃ cell : Int, (match some (decide (k < ns.length)) with
        | some true => Option.map O.fz (atI (List.map PyData.int ns) k)
        | some false => some (O.fz (PyData.int 0))
        | none => none) = some (.fz (.int cell)) := by
    by_cases hk : k < ns.length
    · refine ⟨ns[k.toNat]'(by omega), ?_⟩
      rw [decide_eq_true hk, atI_nn h0]
      simp
    · refine ⟨0, ?_⟩
      rw [decide_eq_false hk]
  obtain ⟨cell, hc⟩ := hc
  refine ⟨_, hc, ?_⟩
  have h3 := Int.emod_nonneg cell (by decide : (2305843009213693951 : Int) ≠ 0)
  have h4 := Int.emod_lt_of_pos cell (by decide : (0 : Int) < 2305843009213693951)
  by_cases hb : (1000000000000000000 : Int) ≤ (if cell < 0 then -cell else cell)
  · simp (maxSteps := 2000000) (disch := omega) [hb, oMod_i, oMul_r, sizeLine]
    exact h _ _ (by omega) (by omega) (by omega)
  · simp (maxSteps := 2000000) (disch := omega) [hb, oMod_i, oMul_r, sizeLine]
    exact h _ _ (by omega) (by omega) (by omega)
theorem q_rounded {n b : Int} (h1 : 0 < b) (h2 : b < 2 ^ 62) : qOf f_rounded [.int n, .int b] = some (.int (up n b)) := by
  apply qof_of
  unfold f_rounded m_rounded
  simp (maxSteps := 2000000) (disch := omega) [List.getElem?_cons_zero, qOp, oDiv_i, oMul_r, up]
theorem q_end_of {s b p : Int} : qOf f_end_of [.tuple [.int s, .int b], .int p] = some (.int (p + s)) := by
  apply qof_of
  unfold f_end_of m_end_of
  simp (maxSteps := 2000000) (disch := omega) [List.getElem?_cons_zero, qOp]
theorem things_spec {a s c m : Int} {n : Nat} {Q : O → List O → Prop} (ha : 0 ≤ a) (hs : 0 ≤ s) (hs2 : s < 2 ^ 62) (hc : 0 ≤ c) (hc2 : c ≤ n) (hn : n < 2 ^ 39) (hm : 0 ≤ m) (hm2 : m ≤ 1000)
    (h : ∀ ts a' c', okT ts → (ts.length : Int) = m → 0 ≤ a' → 0 ≤ c' → c' ≤ ((n + 6001 : Nat) : Int) → Q (.fz (.tuple (ts.map thD))) [.lst [.int a', .int s, .int c'], .dead]) : wF (f__law_things [.lst [.int a, .int s, .int c], .fz (.int m)]) Q := by
  unfold f__law_things m__law_things
  rw [wF_defN, wS_seq]
  simp (maxSteps := 2000000) (disch := omega) [List.getElem?_cons_zero, qCons, qNil, qLst, sizeLine, qRng1]
  refine draw_spec ha hs hs2 hc hc2 (by omega) (by decide) (by decide) fun way a1 c1 w0 w1 ha1 hc1 hc1' => ?_
  have hb : big62 m = true := by unfold big62; simp; omega
  simp (maxSteps := 2000000) (disch := omega) [List.getElem?_cons_zero, qCons, qNil, qLst, sizeLine, qRng1, hb]
  rw [wS_seq]
  simp (maxSteps := 2000000) (disch := omega) [List.getElem?_cons_zero, qCons, qNil, qLst, sizeLine, qRng1, hb]
  refine wS_forI (fun i ρ => ∃ a c ts x4 x5 x6, ρ = [.lst [.int a, .int s, .int c], .fz (.int m), .fz (.int way), .lst (ts.map thD), x4, x5, x6] ∧ 0 ≤ a ∧ 0 ≤ c ∧ c ≤ ((n + 1 + 6 * i : Nat) : Int) ∧ ts.length = i ∧ okT ts) ⟨a1, c1, [], .dead, .dead, .dead, rfl, ha1, hc1, by omega, rfl, fun p m => by cases m⟩ ?_ ?_
  · rintro i x ρ ex ⟨a2, c2, ts, x4, x5, x6, rfl, ha2, hc2, hc2', hl, hk⟩
    have hi : i < m.toNat := by
      have : (rngD 0 m.toNat)[i]? ≠ none := by rw [ex]; simp
      simpa [rngD] using this
    refine ⟨_, rfl, ?_⟩
    rw [wS_seq]
    simp (maxSteps := 2000000) (disch := omega) [List.getElem?_cons_zero, qCons, qNil, qLst, sizeLine, qOp, oPow_i]
    refine draw_spec ha2 hs hs2 hc2 hc2' (by omega) (by decide) (by decide) fun r1 a3 c3 r1a r1b ha3 hc3 hc3' => ?_
    simp (maxSteps := 2000000) (disch := omega) [List.getElem?_cons_zero, qCons, qNil, qLst, sizeLine, qOp, oPow_i]
    refine draw_spec ha3 hs hs2 hc3 hc3' (by omega) (by decide) (by decide) fun r2 a4 c4 r2a r2b ha4 hc4 hc4' => ?_
    simp (maxSteps := 2000000) (disch := omega) [List.getElem?_cons_zero, qCons, qNil, qLst, sizeLine, qOp, oPow_i]
    refine draw_spec ha4 hs hs2 hc4 hc4' (by omega) (by decide) (by decide) fun r3 a5 c5 r3a r3b ha5 hc5 hc5' => ?_
    obtain ⟨z, z1, z2, z3⟩ := pickI (xs := [1 + r1, 8, 1 + r2, 1 + r3]) (lo := 1) (hi := 10 ^ 9) (i := way) (by
      intro x hx
      simp at hx
      rcases hx with rfl | rfl | rfl | rfl <;> omega) w0 (by simpa using w1)
    simp only [List.map_cons, List.map_nil] at z3
    simp (maxSteps := 2000000) (disch := omega) [List.getElem?_cons_zero, qCons, qNil, qLst, sizeLine, qOp, oPow_i, z3]
    rw [wS_seq]
    simp (maxSteps := 2000000) (disch := omega) [List.getElem?_cons_zero, qCons, qNil, qLst, sizeLine, qOp, oPow_i]
    refine draw_spec ha5 hs hs2 hc5 hc5' (by omega) (by decide) (by decide) fun r4 a6 c6 r4a r4b ha6 hc6 hc6' => ?_
    simp (maxSteps := 2000000) (disch := omega) [List.getElem?_cons_zero, qCons, qNil, qLst, sizeLine, qOp, oPow_i]
    refine draw_spec ha6 hs hs2 hc6 hc6' (by omega) (by decide) (by decide) fun r5 a7 c7 r5a r5b ha7 hc7 hc7' => ?_
    obtain ⟨y, y1, y2, y3⟩ := pickI (xs := [1, 1, 2, 4, 8, 3, 6, 1 + r4]) (lo := 1) (hi := 64) (i := r5) (by
      intro x hx
      simp at hx
      rcases hx with rfl | rfl | rfl | rfl | rfl | rfl | rfl | rfl <;> omega) r5a (by simpa using r5b)
    simp only [List.map_cons, List.map_nil] at y3
    simp (maxSteps := 2000000) (disch := omega) [List.getElem?_cons_zero, qCons, qNil, qLst, sizeLine, qOp, oPow_i, y3]
    refine draw_spec ha7 hs hs2 hc7 hc7' (by omega) (by decide) (by decide) fun r6 a8 c8 r6a r6b ha8 hc8 hc8' => ?_
    obtain ⟨u, u1, u2, u3⟩ := pickI (xs := [1, 2, 4, 8]) (lo := 1) (hi := 8) (i := r6) (by
      intro x hx
      simp at hx
      rcases hx with rfl | rfl | rfl | rfl <;> omega) r6a (by simpa using r6b)
    simp only [List.map_cons, List.map_nil] at u3
    have hlen : ts.length < 16777216 := by omega
    have ext : ∀ v : Int, 1 ≤ v → v ≤ 64 → okT (ts ++ [(z, v)]) := fun v v1 v2 q m => by
      rcases List.mem_append.mp m with m | m
      · exact hk q m
      · rw [List.mem_singleton.mp m]
        exact ⟨z1, z2, v1, v2⟩
    by_cases hw : way = 1
    · subst hw
      simp (disch := omega) [List.getElem?_cons_zero, u3, fAppend, hlen, sizeLine, and_assoc]
      exact ⟨ts ++ [(z, u)], by simp [thD], ha8, hc8, by omega, by simp [hl], ext u u1 (by omega)⟩
    · simp (disch := omega) [List.getElem?_cons_zero, u3, fAppend, hlen, sizeLine, and_assoc, hw]
      exact ⟨ts ++ [(z, y)], by simp [thD], ha8, hc8, by omega, by simp [hl], ext y y1 y2⟩
  · rintro ρ ⟨a2, c2, ts, x4, x5, x6, rfl, ha2, hc2, hc2', hl, hk⟩
    have hl2 : (ts.length : Int) = m := by
      rw [hl]
      simp [rngD]
      omega
    simp
    exact h ts a2 c2 hk hl2 ha2 hc2 (by omega)
theorem q_lie_over {s b p s' b' p' : Int} : qOf f_lie_over [.tuple [.int s, .int b], .int p, .tuple [.int s', .int b'], .int p'] = some (.bool (lieO p s p' s')) := by
  apply qof_of
  unfold f_lie_over m_lie_over
  by_cases h1 : p < p' + s' <;> by_cases h2 : p' < p + s <;> simp [qCall, q_end_of, h1, h2, lieO]
theorem q_law_up {n b : Int} (hb : 0 < b) : qOf f__law_up [.int n, .int b] = some (.int (up n b)) := by
  apply qof_of
  unfold f__law_up m__law_up
  have e := up_neg (n := n) hb
  simp (disch := omega) [oMod_i, e]
theorem q_height {ts : List (Int × Int)} {pl : List Int} (hl : ts.length ≤ 1000) (he : pl.length = ts.length) : qOf f_height [.tuple (ts.map thD), .list (pl.map .int)] = some (.int (topD 0 (List.zipWith (fun (t : Int × Int) p => p + t.1) ts pl))) := by
  apply qof_of
  unfold f_height m_height
  have l1 : lcGo (fTup 2 (fCons (fName 2) (fCons (fName 3) fNil))) qYes (qCall (qOf f_end_of) (qCons (qVar 2) (qCons (qVar 3) qNil))) [.fz (.tuple (ts.map thD)), .fz (.list (pl.map .int)), .dead, .dead] (zipD (ts.map thD) (pl.map .int)) = some ((List.zipWith (fun (t : Int × Int) p => p + t.1) ts pl).map .int) := by
    have h := lcGo_map (f := fTup 2 (fCons (fName 2) (fCons (fName 3) fNil))) (e := qCall (qOf f_end_of) (qCons (qVar 2) (qCons (qVar 3) qNil))) (ρ := [.fz (.tuple (ts.map thD)), .fz (.list (pl.map .int)), .dead, .dead]) (h := fun z => match z with | .tuple [.tuple [.int s, _], .int p] => .int (p + s) | d => d) (xs := zipD (ts.map thD) (pl.map .int)) fun z m => by
      obtain ⟨i, hi, rfl⟩ := List.mem_iff_getElem.mp m
      obtain ⟨h1, h2, h3⟩ := zip_at hi
      rw [h3, List.getElem_map, List.getElem_map]
      refine ⟨_, rfl, ?_⟩
      simp [qCall, thD, pairD, q_end_of]
    rw [h]
    unfold zipD
    rw [List.map_zipWith, List.map_zipWith, List.zipWith_map]
    rfl
  have hz : (zipD (ts.map thD) (pl.map PyData.int)).length ≤ 16777216 := by simp [zipD]; omega
  generalize hzz : zipD (ts.map thD) (pl.map PyData.int) = zz at l1 hz
  generalize List.zipWith (fun (t : Int × Int) p => p + t.1) ts pl = es at l1
  simp [hzz, sizeLine, hz, l1]
end FM
namespace FM
open PySem PySem.Spec L2 PyProof.Rows
def thG (ts : List (Int × Int)) (u : Nat) : Int × Int := ts.getD u (1, 1)
def clashG (ts : List (Int × Int)) (pl : List Int) (t : Nat) (p : Int) (u : Nat) : Bool := decide (u ≠ t) && lieO p (thG ts t).1 (pl.getD u 0) (thG ts u).1
def freeT (ts : List (Int × Int)) (pl : List Int) (t : Nat) (p : Int) : Bool := (List.range ts.length).all fun u => !clashG ts pl t p u
def isMv (ts : List (Int × Int)) : PD → Option (Nat × Int)
  | .tuple [.int t, .int p] => if 0 ≤ t ∧ 0 ≤ p ∧ t < ts.length ∧ p % (thG ts t.toNat).2 = 0 then some (t.toNat, p) else none
  | _ => none
def playG (ts : List (Int × Int)) : List PD → List Int → Option (List Int)
  | [], pl => some pl
  | x :: xs, pl => match isMv ts x with
    | none => none
    | some q => if freeT ts pl q.1 q.2 then playG ts xs (pl.set q.1 q.2) else none
def playD (ts : List (Int × Int)) (pl : List Int) : PD → PD
  | .list xs => match playG ts xs pl with
    | some r => .list (r.map .int)
    | none => .none
  | _ => .none
def showsB (ts : List (Int × Int)) (pl news : List Int) : PD → Bool
  | .list xs => match playG ts xs pl with
    | some r => decide (r = news)
    | none => false
  | _ => false
theorem at_thG {ts : List (Int × Int)} {t : Nat} (h : t < ts.length) : atI (ts.map thD) (t : Int) = some (.tuple [.int (thG ts t).1, .int (thG ts t).2]) := at_th h
theorem okT_G {ts : List (Int × Int)} {t : Nat} (o : okT ts) (h : t < ts.length) : 1 ≤ (thG ts t).1 ∧ (thG ts t).1 ≤ 10 ^ 9 ∧ 1 ≤ (thG ts t).2 ∧ (thG ts t).2 ≤ 64 := okT_at o h
theorem q_lawover {s b p s' b' p' : Int} : qOf f__law_over [.tuple [.int s, .int b], .int p, .tuple [.int s', .int b'], .int p'] = some (.bool (lieO p s p' s')) := by
  apply qof_of
  unfold f__law_over m__law_over
  by_cases h1 : p < p' + s' <;> by_cases h2 : p' < p + s <;> simp [h1, h2, lieO]
theorem rng_drop {n i : Nat} (h : i < n) : (List.range n).drop i = i :: (List.range n).drop (i + 1) := by
  rw [List.drop_eq_getElem_cons (by simpa using h)]
  simp
def upto (ts : List (Int × Int)) (pl : List Int) (t : Nat) (p : Int) (i : Nat) : Prop := ∀ u, u < i → clashG ts pl t p u = false
theorem free_of {ts : List (Int × Int)} {pl : List Int} {t : Nat} {p : Int} (h : upto ts pl t p ts.length) : freeT ts pl t p = true := by
  unfold freeT
  rw [List.all_eq_true]
  intro u m
  rw [h u (List.mem_range.mp m)]
  rfl
theorem free_not {ts : List (Int × Int)} {pl : List Int} {t : Nat} {p : Int} {u : Nat} (hu : u < ts.length) (h : clashG ts pl t p u = true) : freeT ts pl t p = false := by
  unfold freeT
  rw [List.all_eq_false]
  exact ⟨u, List.mem_range.mpr hu, by simp [h]⟩
theorem upto_succ {ts : List (Int × Int)} {pl : List Int} {t : Nat} {p : Int} {i : Nat} (h : upto ts pl t p i) (c : clashG ts pl t p i = false) : upto ts pl t p (i + 1) := fun u hu => by
  rcases Nat.lt_or_ge u i with z | z
  · exact h u z
  · have : u = i := by omega
    rw [this]; exact c
theorem upto_0 {ts : List (Int × Int)} {pl : List Int} {t : Nat} {p : Int} : upto ts pl t p 0 := fun u hu => by omega
theorem q_free {ts : List (Int × Int)} {pl : List Int} {t : Nat} {p : Int} (ht : t < ts.length) (hl : pl.length = ts.length) :
    qOf f_is_free [.tuple (ts.map thD), .list (pl.map .int), .int (t : Int), .int p] = some (.bool (freeT ts pl t p)) := by
  apply qof_of
  unfold f_is_free m_is_free
  rw [wF_defN, wS_seq]
  have e1 := at_thG ht
  simp
  refine wS_forI (fun i ρ => ∃ x4 x5, ρ = [.fz (.tuple (ts.map thD)), .fz (.list (pl.map .int)), .fz (.int (t : Int)), .fz (.int p), x4, x5] ∧ upto ts pl t p i) ⟨_, _, rfl, upto_0⟩ ?_ ?_
  · rintro i x ρ ex ⟨x4, x5, rfl, hu⟩
    obtain ⟨d, ed, rfl⟩ := enumGo_at ex
    rw [List.getElem?_map] at ed
    obtain ⟨q, eq, rfl⟩ := Option.map_eq_some_iff.mp ed
    have hi : i < ts.length := hl ▸ (List.getElem?_eq_some_iff.mp eq).1
    have e2 := at_thG hi
    have e3 : pl.getD i 0 = q := by simp [eq]
    have hc : clashG ts pl t p i = (decide (i ≠ t) && lieO p (thG ts t).1 q (thG ts i).1) := by rw [← e3]; rfl
    rw [Nat.zero_add]
    refine ⟨_, rfl, ?_⟩
    by_cases c0 : i = t
    · subst c0
      have hcf : clashG ts pl i p i = false := by rw [hc]; simp
      simp
      exact upto_succ hu hcf
    · have c0' : ¬ ((i : Int) = t) := by omega
      generalize thG ts t = v at e1 hc
      generalize thG ts i = w at e2 hc
      cases hlo : lieO p v.1 q w.1 with
      | true =>
        have hct : clashG ts pl t p i = true := by rw [hc, hlo]; simp [c0]
        simp [c0', e1, e2, qCall, q_lie_over, hlo, free_not hi hct]
      | false =>
        have hcf : clashG ts pl t p i = false := by rw [hc, hlo]; simp
        simp [c0', e1, e2, qCall, q_lie_over, hlo]
        exact upto_succ hu hcf
  · rintro ρ ⟨x4, x5, rfl, hu⟩
    have : (enumGo 0 (pl.map PyData.int)).length = ts.length := by rw [enum_len, List.length_map, hl]
    rw [this] at hu
    simp [free_of hu]
theorem mv_of {ts : List (Int × Int)} {x : PD} {q : Nat × Int} (h : isMv ts x = some q) : x = .tuple [.int (q.1 : Int), .int q.2] ∧ q.1 < ts.length ∧ 0 ≤ q.2 := by
  unfold isMv at h
  split at h
  · split at h
    · rename_i c
      cases h
      obtain ⟨c1, c2, c3, c4⟩ := c
      refine ⟨?_, ?_, c2⟩
      · simp; omega
      · simp only; omega
    · cases h
  · cases h
def num0 : PD → Bool
  | .int i => decide (0 ≤ i)
  | _ => false
theorem q_num0 {d : PD} : qOf f_is_number [d, .int 0] = some (.bool (num0 d)) := by
  apply qof_of
  unfold f_is_number m_is_number
  cases d <;> simp [num0]
theorem num0_two {a b : PD} (h : [a, b].all num0 = true) : ∃ i j, a = .int i ∧ b = .int j ∧ 0 ≤ i ∧ 0 ≤ j := by
  simp at h
  cases a with
  | int i =>
    cases b with
    | int j => exact ⟨i, j, rfl, rfl, by simpa [num0] using h.1, by simpa [num0] using h.2⟩
    | _ => simp [num0] at h
  | _ => simp [num0] at h
theorem q_ismove {ts : List (Int × Int)} {d : PD} (ho : okT ts) : qOf f_is_move [.tuple (ts.map thD), d] = some (.bool (isMv ts d).isSome) := by
  apply qof_of
  unfold f_is_move m_is_move
  rw [wF_defN, wS_seq]
  cases d with
  | tuple ds =>
    by_cases hl : ds.length = 2
    · obtain ⟨a, b, rfl⟩ : ∃ a b, ds = [a, b] := by
        match ds, hl with
        | [a, b], _ => exact ⟨a, b, rfl⟩
      have l1 : lcGo (fName 2) qYes (qCall (qOf f_is_number) (qCons (qVar 2) (qCons (qC (.int 0)) qNil))) [.fz (.tuple (ts.map thD)), .fz (.tuple [a, b]), .dead] [a, b] = some ([a, b].map fun x => .bool (num0 x)) := by
        refine lcGo_map fun x m => ⟨_, rfl, ?_⟩
        simp [qCall, q_num0]
      have e1 : oAll [.fz (.list ([a, b].map fun x => .bool (num0 x)))] = some (.fz (.bool ([a, b].all num0))) := oAll_map
      cases hv : [a, b].all num0 with
      | false =>
        rw [hv] at e1
        have : isMv ts (.tuple [a, b]) = none := by
          cases e : isMv ts (.tuple [a, b]) with
          | none => rfl
          | some q =>
            obtain ⟨z1, z2, z3⟩ := mv_of e
            cases z1
            simp [num0, z3] at hv
        simp only [List.map_cons, List.map_nil] at l1 e1
        simp [l1, e1, sizeLine, this, -oAll_l]
      | true =>
        obtain ⟨i, j, rfl, rfl, hi, hj⟩ := num0_two hv
        obtain ⟨t, rfl⟩ := Int.eq_ofNat_of_zero_le hi
        rw [hv] at e1
        simp only [List.map_cons, List.map_nil] at l1 e1
        simp [l1, e1, sizeLine, -oAll_l]
        by_cases c : t < ts.length
        · have hb := okT_G ho c
          have e2 := at_thG c
          have hm : (isMv ts (.tuple [.int (t : Int), .int j])).isSome = decide (j % (thG ts t).2 = 0) := by
            simp only [isMv, Int.toNat_natCast]
            by_cases z : j % (thG ts t).2 = 0
            · simp [z, hj, c]
            · simp [z]
          rw [hm]
          have c' : (t : Int) < ts.length := by omega
          generalize thG ts t = v at hb e2
          simp (disch := omega) [c, e2, List.getElem?_cons_zero, oMod_i]
        · have c' : ¬ ((t : Int) < ts.length) := by omega
          simp [c, isMv]
    · have hl2 : ¬ ((ds.length : Int) = 2) := by omega
      have : isMv ts (.tuple ds) = none := by
        cases e : isMv ts (.tuple ds) with
        | none => rfl
        | some q =>
          obtain ⟨z1, z2, z3⟩ := mv_of e
          cases z1
          simp at hl
      simp [hl2, this]
  | _ => simp [isMv]
theorem q_shows {ts : List (Int × Int)} {olds news : List Int} {d : PD} (ho : okT ts) (hl : olds.length = ts.length) :
    qOf f_shows_moves [.tuple (ts.map thD), .list (olds.map .int), .list (news.map .int), d] = some (.bool (showsB ts olds news d)) := by
  apply qof_of
  unfold f_shows_moves m_shows_moves
  rw [wF_defN, wS_seq]
  cases d with
  | list xs =>
    simp
    rw [wS_seq]
    simp
    rw [wS_seq]
    simp
    have go : ∀ (ys : List PD) (pl : List Int) (x5 : O), pl.length = ts.length → wS (forGo (fName 5) (sSeq (sIf (bLift (qOr (qNot (qB (qCall (qOf f_is_move) (qCons (qVar 0) (qCons (qVar 5) qNil))))) (qNot (qB (qCall (qOf f_is_free) (qCons (qVar 0) (qCons (qVar 4) (qCons (qOp oIx (qVar 5) (qC (.int 0))) (qCons (qOp oIx (qVar 5) (qC (.int 1))) qNil))))))))) (sRet (mLift (qC (.bool false)))) sNext) (sSetU 4 (qOp oIx (qVar 5) (qC (.int 0))) (mLift (qOp oIx (qVar 5) (qC (.int 1)))))) ys [.fz (.tuple (ts.map thD)), .fz (.list (olds.map .int)), .fz (.list (news.map .int)), .fz (.list xs), .lst (pl.map .int), x5])
        (fun ρ => ∃ r x5, playG ts ys pl = some r ∧ ρ = [.fz (.tuple (ts.map thD)), .fz (.list (olds.map .int)), .fz (.list (news.map .int)), .fz (.list xs), .lst (r.map .int), x5]) (fun o _ => playG ts ys pl = none ∧ o = .fz (.bool false)) (fun _ => False) (fun _ => False) := by
      intro ys
      induction ys with
      | nil => intro pl x5 _; exact ⟨pl, x5, rfl, rfl⟩
      | cons y ys ih =>
        intro pl x5 hpl
        rw [wS_forCons]
        refine ⟨_, rfl, ?_⟩
        rw [wS_seq]
        have em := q_ismove (d := y) ho
        cases hm : isMv ts y with
        | none =>
          rw [hm] at em
          have ep : playG ts (y :: ys) pl = none := by simp [playG, hm]
          simp [qCall, em, ep]
        | some q =>
          rw [hm] at em
          obtain ⟨hy, h1, h2⟩ := mv_of hm
          have ef := q_free (t := q.1) (p := q.2) h1 hpl
          obtain ⟨t, p⟩ := q
          simp only at hy h1 h2 ef
          subst hy
          cases hf : freeT ts pl t p with
          | false =>
            rw [hf] at ef
            have ep : playG ts (.tuple [.int (t : Int), .int p] :: ys) pl = none := by simp [playG, hm, hf]
            simp [qCall, flatOs, flatO, toPDs, imm, em, ef, ep]
          | true =>
            rw [hf] at ef
            have ep : playG ts (.tuple [.int (t : Int), .int p] :: ys) pl = playG ts ys (pl.set t p) := by simp [playG, hm, hf]
            have es := fSetI_n (v := p) (hpl ▸ h1 : t < pl.length)
            rw [ep]
            simp [qCall, flatOs, flatO, toPDs, imm, em, ef, es, -fSetI_i]
            have := ih (pl.set t p) (.fz (.tuple [.int (t : Int), .int p])) (by simp [hpl])
            simpa using this
    refine wS_mono (go xs olds .dead hl) (fun ρ z => ?_) (fun o _ z => ?_) (fun _ z => z) (fun _ z => z)
    · obtain ⟨r, x5, e, rfl⟩ := z
      have ee := oEq_ints (x := .lst (r.map .int)) (y := .fz (.list (news.map .int))) rfl rfl
      simp [ee, showsB, e]
    · obtain ⟨e, rfl⟩ := z
      simp [showsB, e]
  | _ => simp [showsB]
noncomputable def pbody : MS := (sSeq (sIf (bLift (qOr (qNot (qB (qIsi "tuple" (qVar 4)))) (qB (qOp oNe (qCb oLen (qCons (qVar 4) qNil)) (qC (.int 2)))))) (sRet (mLift (qC (.none)))) sNext) (sSeq (sIf (bLift (qNot (qB (qCb oAll (qCons (qFz (qLc (qItA (qVar 4)) (fName 8) qYes (qAndV (qIsi "int" (qVar 8)) (qAndV (qNotV (qIsi "bool" (qVar 8))) (qOp oGe (qVar 8) (qC (.int 0))))) [8])) qNil))))) (sRet (mLift (qC (.none)))) sNext) (sSeq (sAsg (fTup 2 (fCons (fName 5) (fCons (fName 6) fNil))) (mLift (qVar 4))) (sSeq (sIf (bLift (qOr (qB (qOp oGe (qVar 5) (qCb oLen (qCons (qVar 0) qNil)))) (qB (qOp oNe (qOp oMod (qVar 6) (qOp oIx (qOp oIx (qVar 0) (qVar 5)) (qC (.int 1)))) (qC (.int 0)))))) (sRet (mLift (qC (.none)))) sNext) (sSeq (sFor (iLift (qRng1 (qCons (qCb oLen (qCons (qVar 0) qNil)) qNil))) (fName 7) (sIf (bLift (qAnd (qB (qOp oNe (qVar 7) (qVar 5))) (qB (qCall (qOf f__law_over) (qCons (qOp oIx (qVar 0) (qVar 5)) (qCons (qVar 6) (qCons (qOp oIx (qVar 0) (qVar 7)) (qCons (qOp oIx (qVar 3) (qVar 7)) qNil)))))))) (sRet (mLift (qC (.none)))) sNext)) (sSetU 3 (qVar 5) (mLift (qVar 6))))))))
theorem qIsNum {d : PD} {ρ : List O} : qAndV (qIsi "int" (qVar 0)) (qAndV (qNotV (qIsi "bool" (qVar 0))) (qOp oGe (qVar 0) (qC (.int 0)))) (.fz d :: ρ) = some (.fz (.bool (num0 d))) := by
  cases d <;> simp [num0]
theorem isMv_seq {ts : List (Int × Int)} {ds : List PD} (h : ds.length ≠ 2) : isMv ts (.tuple ds) = none := by
  cases e : isMv ts (.tuple ds) with
  | none => rfl
  | some q =>
    obtain ⟨z1, z2, z3⟩ := mv_of e
    cases z1
    simp at h
theorem pbody_step {ts : List (Int × Int)} {olds pl : List Int} {xs : List PD} {y : PD} {x5 x6 x7 x8 : O} {nx bk ct : List O → Prop} {rt : O → List O → Prop} (ho : okT ts) (hn : ts.length ≤ 1000) (hpl : pl.length = ts.length)
    (hnone : isMv ts y = none → ∀ ρ, rt (.fz .none) ρ) (hbad : ∀ q, isMv ts y = some q → freeT ts pl q.1 q.2 = false → ∀ ρ, rt (.fz .none) ρ)
    (hok : ∀ q, isMv ts y = some q → freeT ts pl q.1 q.2 = true → ∀ x4 x5 x6 x7 x8, nx [.fz (.tuple (ts.map thD)), .fz (.list (olds.map .int)), .fz (.list xs), .lst ((pl.set q.1 q.2).map .int), x4, x5, x6, x7, x8]) :
    wS (pbody [.fz (.tuple (ts.map thD)), .fz (.list (olds.map .int)), .fz (.list xs), .lst (pl.map .int), .fz y, x5, x6, x7, x8]) nx rt bk ct := by
  unfold pbody
  rw [wS_seq]
  cases y with
  | tuple ds =>
    by_cases hl : ds.length = 2
    · obtain ⟨a, b, rfl⟩ : ∃ a b, ds = [a, b] := by
        match ds, hl with
        | [a, b], _ => exact ⟨a, b, rfl⟩
      have l1 : lcGo (fName 8) qYes (qAndV (qIsi "int" (qVar 8)) (qAndV (qNotV (qIsi "bool" (qVar 8))) (qOp oGe (qVar 8) (qC (.int 0))))) [.fz (.tuple (ts.map thD)), .fz (.list (olds.map .int)), .fz (.list xs), .lst (pl.map .int), .fz (.tuple [a, b]), x5, x6, x7, .dead] [a, b] = some ([a, b].map fun x => .bool (num0 x)) := by
        refine lcGo_map fun x m => ⟨_, rfl, ?_⟩
        cases x <;> simp [num0]
      have e1 : oAll [.fz (.list ([a, b].map fun x => .bool (num0 x)))] = some (.fz (.bool ([a, b].all num0))) := oAll_map
      cases hv : [a, b].all num0 with
      | false =>
        rw [hv] at e1
        have : isMv ts (.tuple [a, b]) = none := by
          cases e : isMv ts (.tuple [a, b]) with
          | none => rfl
          | some q =>
            obtain ⟨z1, z2, z3⟩ := mv_of e
            cases z1
            simp [num0, z3] at hv
        simp only [List.map_cons, List.map_nil] at l1 e1
        simp
        rw [wS_seq]
        simp [l1, e1, sizeLine, -oAll_l]
        exact hnone this _
      | true =>
        obtain ⟨i, j, rfl, rfl, hi, hj⟩ := num0_two hv
        obtain ⟨t, rfl⟩ := Int.eq_ofNat_of_zero_le hi
        rw [hv] at e1
        simp only [List.map_cons, List.map_nil] at l1 e1
        simp
        rw [wS_seq]
        simp [l1, e1, sizeLine, -oAll_l]
        rw [wS_seq]
        simp
        rw [wS_seq]
        by_cases c : t < ts.length
        · have hb := okT_G ho c
          have e2 := at_thG c
          have c' : ¬ ts.length ≤ t := by omega
          by_cases z : j % (thG ts t).2 = 0
          · have hm : isMv ts (.tuple [.int (t : Int), .int j]) = some (t, j) := by simp [isMv, z, hj, c]
            have hz : (thG ts t).2 ≠ 0 := by omega
            have hz2 : (0 : Int) < (thG ts t).2 := by omega
            have em := oMod_i (i := j) hz2
            simp [c', e2, List.getElem?_cons_zero, em, z]
            rw [wS_seq]
            have hbb : big62 (ts.length : Int) = true := big62_s (by omega) (by omega)
            simp [hbb]
            refine wS_forI (fun i ρ => ∃ x7, ρ = [.fz (.tuple (ts.map thD)), .fz (.list (olds.map .int)), .fz (.list xs), .lst (pl.map .int), .fz (.tuple [.int (t : Int), .int j]), .fz (.int (t : Int)), .fz (.int j), x7, x8] ∧ upto ts pl t j i) ⟨_, rfl, upto_0⟩ ?_ ?_
            · rintro i x ρ ex ⟨x7, rfl, hu⟩
              obtain ⟨rfl, hi⟩ := rngD_at ex
              have hi' : i < ts.length := by omega
              have e4 := at_thG hi'
              have e3 := at_pl (pl := pl) (t := i) (by omega)
              have hc : clashG ts pl t j i = (decide (i ≠ t) && lieO j (thG ts t).1 (pl.getD i 0) (thG ts i).1) := rfl
              refine ⟨_, rfl, ?_⟩
              by_cases c0 : i = t
              · subst c0
                have hcf : clashG ts pl i j i = false := by rw [hc]; simp
                simp
                exact upto_succ hu hcf
              · have c0' : ¬ ((i : Int) = t) := by omega
                generalize pl.getD i 0 = q at e3 hc
                generalize thG ts t = v at e2 hc
                generalize thG ts i = w at e4 hc
                cases hlo : lieO j v.1 q w.1 with
                | true =>
                  have hct : clashG ts pl t j i = true := by rw [hc, hlo]; simp [c0]
                  simp [c0', e2, e3, e4, qCall, q_lawover, hlo]
                  exact hbad _ hm (free_not hi' hct) _
                | false =>
                  have hcf : clashG ts pl t j i = false := by rw [hc, hlo]; simp
                  simp [c0', e2, e3, e4, qCall, q_lawover, hlo]
                  exact upto_succ hu hcf
            · rintro ρ ⟨x7, rfl, hu⟩
              have : (rngD 0 (ts.length : Int).toNat).length = ts.length := by simp
              simp only [Int.toNat_natCast, rngD_len] at hu
              have es := fSetI_n (v := j) (hpl ▸ c : t < pl.length)
              simp [es, -fSetI_i]
              have := hok _ hm (free_of hu) (.fz (.tuple [.int (t : Int), .int j])) (.fz (.int (t : Int))) (.fz (.int j)) x7 x8
              rw [List.map_set] at this
              exact this
          · have hm : isMv ts (.tuple [.int (t : Int), .int j]) = none := by simp [isMv, z]
            have hz : (thG ts t).2 ≠ 0 := by omega
            have hz2 : (0 : Int) < (thG ts t).2 := by omega
            have em := oMod_i (i := j) hz2
            simp [c', e2, List.getElem?_cons_zero, em, z]
            exact hnone hm _
        · have c' : ts.length ≤ t := by omega
          have hm : isMv ts (.tuple [.int (t : Int), .int j]) = none := by simp [isMv, c]
          simp [c']
          exact hnone hm _
    · have hl2 : ¬ ((ds.length : Int) = 2) := by omega
      simp [hl2]
      exact hnone (isMv_seq hl) _
  | _ =>
    simp
    exact hnone rfl _
theorem q_played {ts : List (Int × Int)} {olds : List Int} {d : PD} (ho : okT ts) (hn : ts.length ≤ 1000) (hl : olds.length = ts.length) :
    qOf f__law_played [.tuple (ts.map thD), .list (olds.map .int), d] = some (playD ts olds d) := by
  apply qof_of
  unfold f__law_played m__law_played
  rw [wF_defN, wS_seq]
  cases d with
  | list xs =>
    simp
    rw [wS_seq]
    simp
    rw [wS_seq]
    simp
    have go : ∀ (ys : List PD) (pl : List Int) (x4 x5 x6 x7 x8 : O), pl.length = ts.length → wS (forGo (fName 4) pbody ys [.fz (.tuple (ts.map thD)), .fz (.list (olds.map .int)), .fz (.list xs), .lst (pl.map .int), x4, x5, x6, x7, x8])
        (fun ρ => ∃ r x4 x5 x6 x7 x8, playG ts ys pl = some r ∧ ρ = [.fz (.tuple (ts.map thD)), .fz (.list (olds.map .int)), .fz (.list xs), .lst (r.map .int), x4, x5, x6, x7, x8]) (fun o _ => playG ts ys pl = none ∧ o = .fz .none) (fun _ => False) (fun _ => False) := by
      intro ys
      induction ys with
      | nil => intro pl x4 x5 x6 x7 x8 _; exact ⟨pl, _, _, _, _, _, rfl, rfl⟩
      | cons y ys ih =>
        intro pl x4 x5 x6 x7 x8 hpl
        rw [wS_forCons]
        refine ⟨_, rfl, ?_⟩
        refine pbody_step (xs := xs) ho hn hpl (fun hm ρ => ⟨by simp [playG, hm], rfl⟩) (fun q hm hf ρ => ⟨by simp [playG, hm, hf], rfl⟩) (fun q hm hf x4 x5 x6 x7 x8 => ?_)
        have ep : playG ts (y :: ys) pl = playG ts ys (pl.set q.1 q.2) := by simp [playG, hm, hf]
        rw [ep]
        exact ih (pl.set q.1 q.2) _ _ _ _ _ (by simp [hpl])
    refine wS_mono (go xs olds .dead .dead .dead .dead .dead hl) (fun ρ z => ?_) (fun o _ z => ?_) (fun _ z => z) (fun _ z => z)
    · obtain ⟨r, x4, x5, x6, x7, x8, e, rfl⟩ := z
      simp [playD, e]
    · obtain ⟨e, rfl⟩ := z
      simp [playD, e]
  | _ => simp [playD]
end FM
namespace FM
open PySem PySem.Spec L2 PyProof.Rows
theorem qof_ex {f : List O → FR} {ds : List PD} {p : PD → Prop} (h : wF (f (ds.map .fz)) fun o _ => ∃ d, toPD o = some d ∧ p d) : ∃ d, qOf f ds = some d ∧ p d := by
  unfold qOf
  cases e : f (ds.map .fz) with
  | ret o outs => rw [e] at h; exact h
  | _ => rw [e] at h; exact h.elim
def hgtG (ts : List (Int × Int)) (pl : List Int) : Int := topD 0 (List.zipWith (fun (t : Int × Int) p => p + t.1) ts pl)
theorem topD_max {l : List Int} (h : l ≠ []) {d : Int} : topD d l = maxI l := by
  cases l with
  | nil => exact (h rfl).elim
  | cons n r => exact maxI_cons.symm
theorem end_le {ts : List (Int × Int)} {pl : List Int} {t : Nat} (h : t < ts.length) (hl : pl.length = ts.length) : pl.getD t 0 + (thG ts t).1 ≤ hgtG ts pl := by
  have m : pl.getD t 0 + (thG ts t).1 ∈ List.zipWith (fun (t : Int × Int) p => p + t.1) ts pl := by
    refine List.mem_iff_getElem.mpr ⟨t, by simp; omega, ?_⟩
    simp [thG, h, hl ▸ h]
  unfold hgtG
  rw [topD_max (fun e => by rw [e] at m; cases m)]
  exact (maxI_is (fun e => by rw [e] at m; cases m)).2 _ m
theorem hgt_le {ts : List (Int × Int)} {pl : List Int} {B : Int} (hB : 0 ≤ B) (hl : pl.length = ts.length) (h : ∀ t, t < ts.length → pl.getD t 0 + (thG ts t).1 ≤ B) : hgtG ts pl ≤ B := by
  unfold hgtG
  by_cases e : List.zipWith (fun (t : Int × Int) p => p + t.1) ts pl = []
  · rw [e]; exact hB
  · rw [topD_max e]
    have m := (maxI_is e).1
    obtain ⟨i, hi, ei⟩ := List.mem_iff_getElem.mp m
    rw [← ei]
    have hi2 : i < ts.length := by simp at hi; omega
    have := h i hi2
    simpa [thG, hi2, hl ▸ hi2] using this
def waitG (pl nw : List Int) (t : Nat) : Bool := !decide (pl.getD t 0 = nw.getD t 0)
def wtsG (n : Nat) (pl nw : List Int) : List Nat := (List.range n).filter (waitG pl nw)
def mvD (q : Nat × Int) : PD := .tuple [.int (q.1 : Int), .int q.2]
def aboveG (ts : List (Int × Int)) (pl nw : List Int) : Int := if hgtG ts nw > hgtG ts pl then hgtG ts nw else hgtG ts pl
def freeAt (ts : List (Int × Int)) (pl nw : List Int) (t : Nat) : Bool := freeT ts pl t (nw.getD t 0)
def notIn (as : List Nat) (t : Nat) : Bool := !decide (t ∈ as)
def sideG (ts : List (Int × Int)) (pl nw : List Int) (w as : List Nat) : Nat × Int := match w.filter (notIn as) with
  | t :: _ => (t, up (aboveG ts pl nw) (thG ts t).2)
  | [] => (0, 0)
def nextG (ts : List (Int × Int)) (pl nw : List Int) (as : List Nat) : Nat × Int := match (wtsG ts.length pl nw).find? (freeAt ts pl nw) with
  | some t => (t, nw.getD t 0)
  | none => sideG ts pl nw (wtsG ts.length pl nw) as
def foundN (ts : List (Int × Int)) (pl nw : List Int) (V : List Nat) : Prop := V.find? (freeAt ts pl nw) = none
def foundO (ts : List (Int × Int)) (pl nw : List Int) (V : List Nat) (o : O) : Prop := ∃ t, V.find? (freeAt ts pl nw) = some t ∧ o = .fz (mvD (t, nw.getD t 0))
theorem oNin_nats {u : Nat} {as : List Nat} : oNin (.fz (.int (u : Int))) (.fz (.list (as.map natD))) = some (.fz (.bool (!decide (u ∈ as)))) := by
  have h := oIn_ints (i := (u : Int)) (l := as.map fun t : Nat => (t : Int))
  have e : (as.map fun t : Nat => (t : Int)).map PyData.int = as.map natD := by rw [List.map_map]; rfl
  rw [e] at h
  have e2 : decide ((u : Int) ∈ as.map fun t : Nat => (t : Int)) = decide (u ∈ as) := by
    rw [Bool.eq_iff_iff, decide_eq_true_eq, decide_eq_true_eq, List.mem_map]
    exact ⟨fun ⟨a, m, e⟩ => by have : a = u := by omega
                               exact this ▸ m, fun m => ⟨u, m, rfl⟩⟩
  rw [e2] at h
  unfold oIn at h
  unfold oNin
  cases hb : bIn (.fz (.int (u : Int))) (.fz (.list (as.map natD))) with
  | none => rw [hb] at h; cases h
  | some b =>
    rw [hb] at h
    simp at h
    simp [h]
theorem q_next {ts : List (Int × Int)} {pl nw : List Int} {as : List Nat} (ho : okT ts) (hn : ts.length ≤ 1000) (hl : pl.length = ts.length) (hw : nw.length = ts.length)
    (hs : ((wtsG ts.length pl nw).find? (freeAt ts pl nw)) = none → (wtsG ts.length pl nw).filter (notIn as) ≠ []) :
    qOf f_next_move [.tuple (ts.map thD), .list (pl.map .int), .list (nw.map .int), .list (as.map natD)] = some (mvD (nextG ts pl nw as)) := by
  apply qof_of
  unfold f_next_move m_next_move
  rw [wF_defN, wS_seq]
  have hb : big62 (ts.length : Int) = true := big62_s (by omega) (by omega)
  have e0 : rngD 0 ts.length = (List.range ts.length).map natD := by
    unfold rngD
    apply List.map_congr_left
    intro i _
    simp [natD]
  have l1 : lcGo (fName 5) (qB (qOp oNe (qOp oIx (qVar 1) (qVar 5)) (qOp oIx (qVar 2) (qVar 5)))) (qVar 5) [.fz (.tuple (ts.map thD)), .fz (.list (pl.map .int)), .fz (.list (nw.map .int)), .fz (.list (as.map natD)), .dead, .dead, .dead] (rngD 0 ts.length) = some ((wtsG ts.length pl nw).map natD) := by
    unfold wtsG
    rw [e0, ← natD_filter (natP_natD (p := waitG pl nw))]
    have h := lcGo_all (f := fName 5) (c := qB (qOp oNe (qOp oIx (qVar 1) (qVar 5)) (qOp oIx (qVar 2) (qVar 5)))) (e := qVar 5) (ρ := [.fz (.tuple (ts.map thD)), .fz (.list (pl.map .int)), .fz (.list (nw.map .int)), .fz (.list (as.map natD)), .dead, .dead, .dead]) (p := natP (waitG pl nw)) (h := fun x => x) (xs := (List.range ts.length).map natD) fun x mx => by
      obtain ⟨u, mu, rfl⟩ := List.mem_map.mp mx
      have hu := List.mem_range.mp mu
      refine ⟨_, rfl, ?_, fun _ => by simp⟩
      have e1 := at_pl (pl := pl) (t := u) (by omega)
      have e2 := at_pl (pl := nw) (t := u) (by omega)
      have e3 : natP (waitG pl nw) (natD u) = waitG pl nw u := natP_natD u
      rw [e3]
      unfold waitG
      generalize pl.getD u 0 = a at e1
      generalize nw.getD u 0 = b at e2
      simp [natD, e1, e2]
    rw [h, List.map_id']
  have hz : (rngD 0 ts.length).length ≤ sizeLine := by simp [sizeLine]; omega
  have hmem : ∀ t ∈ wtsG ts.length pl nw, t < ts.length := fun t m => List.mem_range.mp (List.mem_filter.mp m).1
  generalize hR : mvD (nextG ts pl nw as) = R
  unfold nextG at hR
  have hlen : (wtsG ts.length pl nw).length ≤ ts.length := by
    have := List.length_filter_le (waitG pl nw) (List.range ts.length)
    simpa [wtsG] using this
  generalize wtsG ts.length pl nw = W at l1 hmem hs hlen hR
  have hz2 : ts.length ≤ 16777216 := by omega
  simp [hb, hz, hz2, sizeLine, l1]
  rw [wS_seq]
  simp
  have go : ∀ (V : List Nat) (x5 : O), (∀ t ∈ V, t < ts.length) → wS (forGo (fName 5) (sIf (bLift (qB (qCall (qOf f_is_free) (qCons (qVar 0) (qCons (qVar 1) (qCons (qVar 5) (qCons (qOp oIx (qVar 2) (qVar 5)) qNil))))))) (sRet (mLift (qTup (qCons (qVar 5) (qCons (qOp oIx (qVar 2) (qVar 5)) qNil))))) sNext) (V.map natD) [.fz (.tuple (ts.map thD)), .fz (.list (pl.map .int)), .fz (.list (nw.map .int)), .fz (.list (as.map natD)), .fz (.list (W.map natD)), x5, .dead])
      (fun ρ => foundN ts pl nw V ∧ ∃ x5, ρ = [.fz (.tuple (ts.map thD)), .fz (.list (pl.map .int)), .fz (.list (nw.map .int)), .fz (.list (as.map natD)), .fz (.list (W.map natD)), x5, .dead])
      (fun o _ => foundO ts pl nw V o) (fun _ => False) (fun _ => False) := by
    intro V
    induction V with
    | nil => intro x5 _; exact ⟨rfl, x5, rfl⟩
    | cons v V ih =>
      intro x5 hV
      rw [List.map_cons, wS_forCons]
      refine ⟨_, rfl, ?_⟩
      have hv := hV v List.mem_cons_self
      have e2 := at_pl (pl := nw) (t := v) (by omega)
      have ef := q_free (t := v) (p := nw.getD v 0) hv hl
      have ef : qOf f_is_free [.tuple (ts.map thD), .list (pl.map .int), .int (v : Int), .int (nw.getD v 0)] = some (.bool (freeAt ts pl nw v)) := ef
      cases hf : freeAt ts pl nw v with
      | true =>
        rw [hf] at ef
        have e5 : foundO ts pl nw (v :: V) (.fz (.tuple [.int (v : Int), .int (nw.getD v 0)])) := ⟨v, by rw [List.find?_cons, hf], rfl⟩
        generalize nw.getD v 0 = b at e2 ef e5
        simp [natD, e2, qCall, ef, sizeLine]
        exact e5
      | false =>
        rw [hf] at ef
        have eN : foundN ts pl nw (v :: V) = foundN ts pl nw V := by unfold foundN; rw [List.find?_cons, hf]
        have eO : ∀ o, foundO ts pl nw (v :: V) o = foundO ts pl nw V o := fun o => by unfold foundO; rw [List.find?_cons, hf]
        simp only [eN, eO]
        have := ih (.fz (natD v)) fun t m => hV t (List.mem_cons_of_mem _ m)
        generalize nw.getD v 0 = b at e2 ef
        simp [natD, e2, qCall, ef]
        exact this
  refine wS_mono (go W .dead hmem) (fun ρ z => ?_) (fun o _ z => ?_) (fun _ z => z) (fun _ z => z)
  · obtain ⟨hno, x5, rfl⟩ := z
    have hno : W.find? (freeAt ts pl nw) = none := hno
    have hne := hs hno
    rw [hno] at hR
    simp only at hR
    unfold sideG at hR
    have l2 : lcGo (fName 5) (qB (qOp oNin (qVar 5) (qVar 3))) (qVar 5) [.fz (.tuple (ts.map thD)), .fz (.list (pl.map .int)), .fz (.list (nw.map .int)), .fz (.list (as.map natD)), .fz (.list (W.map natD)), .dead, .dead] (W.map natD) = some ((W.filter (notIn as)).map natD) := by
      rw [← natD_filter (natP_natD (p := notIn as))]
      have h := lcGo_all (f := fName 5) (c := qB (qOp oNin (qVar 5) (qVar 3))) (e := qVar 5) (ρ := [.fz (.tuple (ts.map thD)), .fz (.list (pl.map .int)), .fz (.list (nw.map .int)), .fz (.list (as.map natD)), .fz (.list (W.map natD)), .dead, .dead]) (p := natP (notIn as)) (h := fun x => x) (xs := W.map natD) fun x mx => by
        obtain ⟨u, mu, rfl⟩ := List.mem_map.mp mx
        refine ⟨_, rfl, ?_, fun _ => by simp⟩
        have e3 : natP (notIn as) (natD u) = notIn as u := natP_natD u
        have e4 : oNin (.fz (.int (u : Int))) (.fz (.list (as.map natD))) = some (.fz (.bool (notIn as u))) := oNin_nats
        rw [e3]
        generalize notIn as u = b at e4
        generalize as.map natD = asD at e4
        simp [natD, e4]
      rw [h, List.map_id']
    cases hF : W.filter (notIn as) with
    | nil => exact (hne hF).elim
    | cons t F =>
      rw [hF] at l2 hR
      simp only at hR
      have ht : t < ts.length := hmem t (List.mem_filter.mp (hF ▸ List.mem_cons_self : t ∈ W.filter (notIn as))).1
      rw [wS_seq]
      have hzW : W.length ≤ 16777216 := by omega
      simp [sizeLine, hzW, l2]
      rw [wS_seq]
      have h1 := q_height (ts := ts) (pl := pl) hn hl
      have h2 := q_height (ts := ts) (pl := nw) hn hw
      have e2 := at_thG ht
      have hb2 := okT_G ho ht
      have h3 : qOf f_height [.tuple (ts.map thD), .list (pl.map .int)] = some (.int (hgtG ts pl)) := h1
      have h4 : qOf f_height [.tuple (ts.map thD), .list (nw.map .int)] = some (.int (hgtG ts nw)) := h2
      unfold aboveG at hR
      generalize hgtG ts pl = H1 at h3 hR
      generalize hgtG ts nw = H2 at h4 hR
      simp [qCall, h3, h4]
      have hR : mvD (t, up (if H1 < H2 then H2 else H1) (thG ts t).2) = R := hR
      generalize (if H1 < H2 then H2 else H1) = ab at hR
      generalize thG ts t = v at e2 hb2 hR
      have hr := q_rounded (n := ab) (b := v.2) (by omega) (by omega)
      simp [natD, e2, List.getElem?_cons_zero, qCall, hr, sizeLine, ← hR, mvD]
  · obtain ⟨t, e, rfl⟩ := z
    rw [e] at hR
    rw [← hR]
    rfl
end FM
namespace FM
open PySem PySem.Spec L2 PyProof.Rows
def sepG (ts : List (Int × Int)) (pl : List Int) : Prop := ∀ t u, t < ts.length → u < ts.length → u ≠ t → lieO (pl.getD t 0) (thG ts t).1 (pl.getD u 0) (thG ts u).1 = false
def valG (pl nw : List Int) (as : List Nat) (t : Nat) : Nat := if pl.getD t 0 = nw.getD t 0 then 0 else if t ∈ as then 1 else 2
def measG (n : Nat) (pl nw : List Int) (as : List Nat) : Nat := ((List.range n).map (valG pl nw as)).sum
theorem sum_le {f g : Nat → Nat} : ∀ {l : List Nat}, (∀ x ∈ l, g x ≤ f x) → (l.map g).sum ≤ (l.map f).sum
  | [], _ => Nat.le_refl _
  | x :: l, h => by
    have h1 := h x List.mem_cons_self
    have h2 := sum_le (l := l) fun y m => h y (List.mem_cons_of_mem _ m)
    simp
    omega
theorem sum_lt {f g : Nat → Nat} : ∀ {l : List Nat}, (∀ x ∈ l, g x ≤ f x) → (∃ x ∈ l, g x < f x) → (l.map g).sum < (l.map f).sum
  | [], _, ⟨_, m, _⟩ => by cases m
  | x :: l, h, ⟨y, m, hy⟩ => by
    have h1 := h x List.mem_cons_self
    have h2 := sum_le (l := l) fun y m => h y (List.mem_cons_of_mem _ m)
    simp
    rcases List.mem_cons.mp m with rfl | m
    · omega
    · have := sum_lt (l := l) (fun y m => h y (List.mem_cons_of_mem _ m)) ⟨y, m, hy⟩
      omega
theorem meas_le {n : Nat} {pl nw : List Int} {as : List Nat} : measG n pl nw as ≤ 2 * n := by
  have h : ∀ l : List Nat, (l.map (valG pl nw as)).sum ≤ 2 * l.length := by
    intro l
    induction l with
    | nil => simp
    | cons x l ih =>
      have : valG pl nw as x ≤ 2 := by unfold valG; split <;> (try split) <;> omega
      simp
      omega
  have := h (List.range n)
  simpa [measG] using this
theorem wait_ex {n : Nat} {pl nw : List Int} (hl : pl.length = n) (hw : nw.length = n) (h : pl ≠ nw) : wtsG n pl nw ≠ [] := by
  intro e
  apply h
  apply List.ext_getElem (by omega)
  intro i h1 h2
  have : i ∉ wtsG n pl nw := by rw [e]; simp
  unfold wtsG at this
  rw [List.mem_filter] at this
  have h3 : waitG pl nw i ≠ true := fun z => this ⟨List.mem_range.mpr (by omega), z⟩
  unfold waitG at h3
  simpa [h1, h2] using h3
theorem wts_mem {n t : Nat} {pl nw : List Int} : t ∈ wtsG n pl nw ↔ t < n ∧ pl.getD t 0 ≠ nw.getD t 0 := by
  unfold wtsG waitG
  rw [List.mem_filter, List.mem_range]
  simp
def highG (ts : List (Int × Int)) (pl nw : List Int) (as : List Nat) : Prop := ∀ t, t < ts.length → t ∈ as → pl.getD t 0 ≠ nw.getD t 0 → hgtG ts nw ≤ pl.getD t 0
theorem next_ok {ts : List (Int × Int)} {pl nw : List Int} {as : List Nat} (ho : okT ts) (hl : pl.length = ts.length) (hw : nw.length = ts.length) (hne : pl ≠ nw) (hs : sepG ts nw) (hh : highG ts pl nw as)
    (hf : (wtsG ts.length pl nw).find? (freeAt ts pl nw) = none) : (wtsG ts.length pl nw).filter (notIn as) ≠ [] := by
  intro e
  obtain ⟨t, mt⟩ := List.exists_mem_of_ne_nil _ (wait_ex hl hw hne)
  have h1 := List.find?_eq_none.mp hf t mt
  apply h1
  obtain ⟨ht, hwt⟩ := wts_mem.mp mt
  refine free_of fun u hu => ?_
  unfold clashG
  by_cases c : u = t
  · simp [c]
  · by_cases z : pl.getD u 0 = nw.getD u 0
    · rw [z, hs t u ht hu c, Bool.and_false]
    · have mu : u ∈ wtsG ts.length pl nw := wts_mem.mpr ⟨hu, z⟩
      have h2 := List.filter_eq_nil_iff.mp e u mu
      have h3 : u ∈ as := by simpa [notIn] using h2
      have h4 := hh u hu h3 z
      have h5 := end_le (t := t) ht hw
      rw [lieO_false.mpr (by omega), Bool.and_false]
/-- what the next move is -/
theorem next_is {ts : List (Int × Int)} {pl nw : List Int} {as : List Nat} (ho : okT ts) (hl : pl.length = ts.length) (hw : nw.length = ts.length) (hne : pl ≠ nw) (hs : sepG ts nw) (hh : highG ts pl nw as) :
    ∃ t p, nextG ts pl nw as = (t, p) ∧ t < ts.length ∧ pl.getD t 0 ≠ nw.getD t 0 ∧ (p = nw.getD t 0 ∨ (t ∉ as ∧ p ≠ nw.getD t 0 ∧ hgtG ts nw ≤ p ∧ p ≤ aboveG ts pl nw + 64)) := by
  cases hf : (wtsG ts.length pl nw).find? (freeAt ts pl nw) with
  | some t =>
    obtain ⟨ht, hwt⟩ := wts_mem.mp (List.mem_of_find?_eq_some hf)
    exact ⟨t, nw.getD t 0, by unfold nextG; rw [hf], ht, hwt, .inl rfl⟩
  | none =>
    have hne2 := next_ok ho hl hw hne hs hh hf
    cases hF : (wtsG ts.length pl nw).filter (notIn as) with
    | nil => exact (hne2 hF).elim
    | cons t F =>
      have mt : t ∈ (wtsG ts.length pl nw).filter (notIn as) := hF ▸ List.mem_cons_self
      obtain ⟨m1, m2⟩ := List.mem_filter.mp mt
      obtain ⟨ht, hwt⟩ := wts_mem.mp m1
      have hb := okT_G ho ht
      obtain ⟨u1, u2⟩ := up_is (e := aboveG ts pl nw) (b := (thG ts t).2) (by omega)
      have h5 := end_le (t := t) ht hw
      have h6 : hgtG ts nw ≤ aboveG ts pl nw := by unfold aboveG; split <;> omega
      refine ⟨t, up (aboveG ts pl nw) (thG ts t).2, by unfold nextG; rw [hf]; simp only; unfold sideG; rw [hF], ht, hwt, .inr ⟨by simpa [notIn] using m2, by omega, by omega, by omega⟩⟩
theorem imm_mv {q : Nat × Int} : imm (mvD q) = true := rfl
theorem flen_sum {p : Nat → Bool} : ∀ l : List Nat, (l.filter p).length = (l.map fun x => if p x then 1 else 0).sum
  | [] => rfl
  | x :: l => by
    have ih := flen_sum (p := p) l
    rw [List.filter_cons, List.map_cons, List.sum_cons, ← ih]
    cases p x <;> simp <;> omega
theorem flen_le {p q : Nat → Bool} {l : List Nat} (h : ∀ x ∈ l, p x = true → q x = true) : (l.filter p).length ≤ (l.filter q).length := by
  rw [flen_sum, flen_sum]
  refine sum_le fun x m => ?_
  have := h x m
  cases hp : p x with
  | false => simp
  | true => simp [this hp]
theorem flen_lt {p q : Nat → Bool} {l : List Nat} (h : ∀ x ∈ l, p x = true → q x = true) {y : Nat} (m : y ∈ l) (hy : p y = false) (hq : q y = true) : (l.filter p).length < (l.filter q).length := by
  rw [flen_sum, flen_sum]
  refine sum_lt (fun x m => ?_) ⟨y, m, by simp [hy, hq]⟩
  have := h x m
  cases hp : p x with
  | false => simp
  | true => simp [this hp]
theorem pigeon {R : Nat → Nat → Prop} : ∀ {W V : List Nat}, W.Nodup → (∀ t ∈ W, ∃ u ∈ V, R t u) → (∀ t ∈ W, ∀ t' ∈ W, ∀ u, R t u → R t' u → t = t') → W.length ≤ V.length
  | [], _, _, _, _ => Nat.zero_le _
  | t :: W, V, hn, he, hi => by
    obtain ⟨h1, h2⟩ := List.nodup_cons.mp hn
    obtain ⟨u, mu, ru⟩ := he t List.mem_cons_self
    have ih := pigeon (W := W) (V := V.erase u) h2 (fun t' m' => by
      obtain ⟨u', mu', ru'⟩ := he t' (List.mem_cons_of_mem _ m')
      have hne : u' ≠ u := fun e => by
        rw [e] at ru'
        have := hi t List.mem_cons_self t' (List.mem_cons_of_mem _ m') u ru ru'
        exact h1 (this ▸ m')
      exact ⟨u', (List.mem_erase_of_ne hne).mpr mu', ru'⟩) (fun a ma b mb u ra rb => hi a (List.mem_cons_of_mem _ ma) b (List.mem_cons_of_mem _ mb) u ra rb)
    have h3 := List.length_erase_of_mem mu
    have h4 : 0 < V.length := List.length_pos_of_mem mu
    simp only [List.length_cons]
    omega
def cntG (fs : List (Nat × Int)) (t : Nat) : Nat := (fs.filter fun q => decide (q.1 = t)).length
theorem cnt_snoc {fs : List (Nat × Int)} {t u : Nat} {p : Int} : cntG (fs ++ [(t, p)]) u = cntG fs u + if t = u then 1 else 0 := by
  unfold cntG
  rw [List.filter_append, List.length_append]
  by_cases c : t = u <;> simp [c]
theorem play_snoc {ts : List (Int × Int)} {y : PD} : ∀ {xs : List PD} {pl r : List Int}, playG ts xs pl = some r → playG ts (xs ++ [y]) pl = playG ts [y] r
  | [], pl, r, h => by cases h; rfl
  | x :: xs, pl, r, h => by
    rw [List.cons_append]
    unfold playG at h ⊢
    cases hm : isMv ts x with
    | none => rw [hm] at h; cases h
    | some q =>
      rw [hm] at h
      simp only at h ⊢
      split
      · rename_i hf
        rw [if_pos hf] at h
        exact play_snoc h
      · rename_i hf
        rw [if_neg hf] at h
        cases h
def slotOk (ts : List (Int × Int)) (olds nw : List Int) : Prop := ∃ z : Int, 1 ≤ z ∧ ∀ t, t < ts.length → (thG ts t).1 = z ∧ (∃ v, olds.getD t 0 = z * v) ∧ ∃ v, nw.getD t 0 = z * v
theorem slot_same {z v w : Int} (hz : 1 ≤ z) (h : lieO (z * w) z (z * v) z = true) : v = w := by
  obtain ⟨h1, h2⟩ := lieO_true.mp h
  have g1 : z * w < z * (v + 1) := by rw [Int.mul_add]; omega
  have g2 : z * v < z * (w + 1) := by rw [Int.mul_add]; omega
  have k1 := Int.lt_of_mul_lt_mul_left g1 (by omega)
  have k2 := Int.lt_of_mul_lt_mul_left g2 (by omega)
  omega
def homeL (olds pl nw : List Int) (as : List Nat) (t : Nat) : Bool := decide (olds.getD t 0 ≠ nw.getD t 0) && !decide (t ∈ as) && decide (pl.getD t 0 = nw.getD t 0)
def homeN (n : Nat) (olds pl nw : List Int) (as : List Nat) : Nat := ((List.range n).filter (homeL olds pl nw as)).length
/-- the count of what was put aside, of slots -/
def sideI (ts : List (Int × Int)) (olds pl nw : List Int) (as : List Nat) : Prop :=
  (∀ a b, a ∈ as → b ∈ as → pl.getD a 0 ≠ nw.getD a 0 → pl.getD b 0 ≠ nw.getD b 0 → a = b) ∧
  (as.length ≤ homeN ts.length olds pl nw as ∨ (as.length = homeN ts.length olds pl nw as + 1 ∧ ∃ a u, a ∈ as ∧ a < ts.length ∧ pl.getD a 0 ≠ nw.getD a 0 ∧ u < ts.length ∧ u ≠ a ∧ pl.getD u 0 = nw.getD a 0))
/-- what holds while things are moved -/
structure MovOk (ts : List (Int × Int)) (olds nw pl : List Int) (fs : List (Nat × Int)) (as : List Nat) : Prop where
  len : pl.length = ts.length
  high : highG ts pl nw as
  play : playG ts (fs.map mvD) olds = some pl
  cnt : ∀ t, t < ts.length → cntG fs t + valG pl nw as t ≤ valG olds nw [] t
  once : ∀ t, t < ts.length → t ∉ as → cntG fs t ≤ if pl.getD t 0 = nw.getD t 0 then 1 else 0
  old : ∀ t, t < ts.length → pl.getD t 0 = olds.getD t 0 ∨ pl.getD t 0 = nw.getD t 0 ∨ t ∈ as
  nd : as.Nodup
  asn : ∀ t ∈ as, t < ts.length ∧ olds.getD t 0 ≠ nw.getD t 0
  side : slotOk ts olds nw → sideI ts olds pl nw as
theorem val_pos {pl nw : List Int} {as : List Nat} {t : Nat} (h : pl.getD t 0 ≠ nw.getD t 0) : 1 ≤ valG pl nw as t := by
  unfold valG
  rw [if_neg h]
  split <;> omega
theorem stuck_none {ts : List (Int × Int)} {olds nw pl : List Int} {fs : List (Nat × Int)} {as : List Nat} (ho : okT ts) (hw : nw.length = ts.length) (hs : sepG ts nw) (M : MovOk ts olds nw pl fs as) (hsl : slotOk ts olds nw)
    (hf : (wtsG ts.length pl nw).find? (freeAt ts pl nw) = none) :
    (∀ t ∈ wtsG ts.length pl nw, ∃ u, u < ts.length ∧ u ≠ t ∧ u ∉ as ∧ pl.getD u 0 ≠ nw.getD u 0 ∧ pl.getD u 0 = nw.getD t 0) := by
  obtain ⟨z, hz, hz2⟩ := hsl
  intro t mt
  obtain ⟨ht, hwt⟩ := wts_mem.mp mt
  have h1 : freeAt ts pl nw t ≠ true := List.find?_eq_none.mp hf t mt
  have h2 : ¬ upto ts pl t (nw.getD t 0) ts.length := fun h => h1 (free_of h)
  have ⟨u, hu, hc⟩ : ∃ u, u < ts.length ∧ clashG ts pl t (nw.getD t 0) u = true := by
    refine Classical.byContradiction fun h => h2 fun u hu => ?_
    cases e : clashG ts pl t (nw.getD t 0) u with
    | false => rfl
    | true => exact (h ⟨u, hu, e⟩).elim
  unfold clashG at hc
  rw [Bool.and_eq_true, decide_eq_true_eq] at hc
  obtain ⟨hne, hc⟩ := hc
  have hnu : pl.getD u 0 ≠ nw.getD u 0 := fun e => by
    rw [e, hs t u ht hu hne] at hc
    cases hc
  have hua : u ∉ as := fun m => by
    have h4 := M.high u hu m hnu
    have h5 := end_le (t := t) ht hw
    have : lieO (nw.getD t 0) (thG ts t).1 (pl.getD u 0) (thG ts u).1 = false := lieO_false.mpr (by omega)
    rw [this] at hc
    cases hc
  obtain ⟨s1, _, v, hv⟩ := hz2 t ht
  obtain ⟨s2, ⟨w, hwv⟩, _⟩ := hz2 u hu
  have hpu : pl.getD u 0 = z * w := by
    rcases M.old u hu with e | e | e
    · rw [e, hwv]
    · exact (hnu e).elim
    · exact (hua e).elim
  rw [s1, s2, hv, hpu] at hc
  have := slot_same hz hc
  exact ⟨u, hu, hne, hua, hnu, by rw [hpu, hv, this]⟩
theorem stuck_aside {ts : List (Int × Int)} {olds nw pl : List Int} {fs : List (Nat × Int)} {as : List Nat} (ho : okT ts) (hw : nw.length = ts.length) (hs : sepG ts nw) (M : MovOk ts olds nw pl fs as) (hsl : slotOk ts olds nw)
    (hf : (wtsG ts.length pl nw).find? (freeAt ts pl nw) = none) : ∀ a, a ∈ as → pl.getD a 0 = nw.getD a 0 := by
  intro a ma
  refine Classical.byContradiction fun hna => ?_
  have haW : a ∈ wtsG ts.length pl nw := wts_mem.mpr ⟨(M.asn a ma).1, hna⟩
  have hocc := stuck_none ho hw hs M hsl hf
  have hnd : (wtsG ts.length pl nw).Nodup := List.Nodup.sublist List.filter_sublist List.nodup_range
  have p := pigeon (R := fun t u => u ≠ t ∧ pl.getD u 0 = nw.getD t 0) (W := wtsG ts.length pl nw) (V := (wtsG ts.length pl nw).filter (notIn as)) hnd (fun t mt => by
    obtain ⟨u, hu, hne, hua, hnu, e⟩ := hocc t mt
    exact ⟨u, List.mem_filter.mpr ⟨wts_mem.mpr ⟨hu, hnu⟩, by simp [notIn, hua]⟩, hne, e⟩) (fun t mt t' mt' u r r' => by
    refine Classical.byContradiction fun hne => ?_
    have e : nw.getD t 0 = nw.getD t' 0 := r.2.symm.trans r'.2
    obtain ⟨ht, _⟩ := wts_mem.mp mt
    obtain ⟨ht', _⟩ := wts_mem.mp mt'
    have h1 := hs t t' ht ht' (fun e => hne e.symm)
    have h2 := okT_G ho ht
    have h3 := okT_G ho ht'
    have := lieO_false.mp h1
    omega)
  have q : ((wtsG ts.length pl nw).filter (notIn as)).length < (wtsG ts.length pl nw).length := List.length_filter_lt_length_iff_exists.mpr ⟨a, haW, by simp [notIn, ma]⟩
  omega
end FM
namespace FM
open PySem PySem.Spec L2 PyProof.Rows
theorem else_of {ts : List (Int × Int)} {olds nw pl : List Int} {fs : List (Nat × Int)} {as : List Nat} (M : MovOk ts olds nw pl fs as) {t : Nat} (ht : t < ts.length) (hwt : pl.getD t 0 ≠ nw.getD t 0) : olds.getD t 0 ≠ nw.getD t 0 := by
  intro e
  have h1 := M.cnt t ht
  have h2 := val_pos (as := as) hwt
  unfold valG at h1
  rw [if_pos e] at h1
  unfold valG at h2
  omega
theorem val_set {pl nw : List Int} {as as' : List Nat} {t u : Nat} {p : Int} (hl : t < pl.length) (h : t ≠ u) (ha : u ∈ as' ↔ u ∈ as) : valG (pl.set t p) nw as' u = valG pl nw as u := by
  unfold valG
  rw [getD_set hl, if_neg h]
  simp only [ha]
theorem play_one {ts : List (Int × Int)} {pl : List Int} {t : Nat} {p : Int} (ht : t < ts.length) (hp : 0 ≤ p) (hb : p % (thG ts t).2 = 0) (hf : freeT ts pl t p = true) : playG ts [mvD (t, p)] pl = some (pl.set t p) := by
  have hm : isMv ts (mvD (t, p)) = some (t, p) := by
    simp [mvD, isMv, hp, hb, ht]
  unfold playG
  rw [hm]
  simp only [hf, if_true]
  rfl
theorem direct_ok {ts : List (Int × Int)} {olds nw pl : List Int} {fs : List (Nat × Int)} {as : List Nat} (ho : okT ts) (hw : nw.length = ts.length) (hs : sepG ts nw) (hb : ∀ t, t < ts.length → 0 ≤ nw.getD t 0 ∧ nw.getD t 0 % (thG ts t).2 = 0) (M : MovOk ts olds nw pl fs as)
    {t : Nat} (hf : (wtsG ts.length pl nw).find? (freeAt ts pl nw) = some t) : MovOk ts olds nw (pl.set t (nw.getD t 0)) (fs ++ [(t, nw.getD t 0)]) as := by
  obtain ⟨ht, hwt⟩ := wts_mem.mp (List.mem_of_find?_eq_some hf)
  have hfree0 : freeAt ts pl nw t = true := List.find?_some hf
  have hfree : freeT ts pl t (nw.getD t 0) = true := hfree0
  have hl : t < pl.length := M.len ▸ ht
  have hgd : ∀ u, (pl.set t (nw.getD t 0)).getD u 0 = if t = u then nw.getD t 0 else pl.getD u 0 := fun u => getD_set hl
  have hel := else_of M ht hwt
  refine ⟨by simp [M.len], fun u hu mu hwu => ?_, ?_, fun u hu => ?_, fun u hu mu => ?_, fun u hu => ?_, M.nd, M.asn, fun hsl => ?_⟩
  · rw [hgd] at hwu ⊢
    by_cases c : t = u
    · subst c; rw [if_pos rfl] at hwu; exact (hwu rfl).elim
    · rw [if_neg c] at hwu ⊢; exact M.high u hu mu hwu
  · rw [List.map_append]
    rw [List.map_cons, List.map_nil, play_snoc M.play]
    exact play_one ht (hb t ht).1 (hb t ht).2 hfree
  · rw [cnt_snoc]
    have h1 := M.cnt u hu
    by_cases c : t = u
    · subst c
      have h2 := val_pos (as := as) hwt
      have h3 : valG (pl.set t (nw.getD t 0)) nw as t = 0 := by unfold valG; rw [hgd, if_pos rfl, if_pos rfl]
      rw [if_pos rfl]
      omega
    · rw [if_neg c, val_set hl c Iff.rfl]
      exact h1
  · rw [cnt_snoc, hgd]
    have h1 := M.once u hu mu
    by_cases c : t = u
    · subst c
      rw [if_neg hwt] at h1
      rw [if_pos rfl, if_pos rfl, if_pos rfl]
      omega
    · rw [if_neg c, if_neg c]
      exact h1
  · rw [hgd]
    by_cases c : t = u
    · subst c; rw [if_pos rfl]; exact .inr (.inl rfl)
    · rw [if_neg c]; exact M.old u hu
  · obtain ⟨S1, S2⟩ := M.side hsl
    have mono : homeN ts.length olds pl nw as ≤ homeN ts.length olds (pl.set t (nw.getD t 0)) nw as := flen_le fun u mu hu => by
      unfold homeL at hu ⊢
      rw [hgd]
      by_cases c : t = u
      · subst c
        simp at hu
        exact (hwt (by simpa using hu.2)).elim
      · rw [if_neg c]; exact hu
    refine ⟨fun a b ma mb ha hb2 => ?_, ?_⟩
    · rw [hgd] at ha hb2
      by_cases ca : t = a
      · subst ca; rw [if_pos rfl] at ha; exact (ha rfl).elim
      · by_cases cb : t = b
        · subst cb; rw [if_pos rfl] at hb2; exact (hb2 rfl).elim
        · rw [if_neg ca] at ha
          rw [if_neg cb] at hb2
          exact S1 a b ma mb ha hb2
    · left
      by_cases mt : t ∈ as
      · rcases S2 with S2 | ⟨_, a, u, ma, ha, hwa, hu, hne, e⟩
        · omega
        · have hta : t = a := S1 t a mt ma hwt hwa
          subst hta
          have hc : clashG ts pl t (nw.getD t 0) u = true := by
            unfold clashG
            rw [e, decide_eq_true hne, Bool.true_and]
            have h1 := okT_G ho ht
            have h2 := okT_G ho hu
            exact lieO_true.mpr (by omega)
          rw [free_not hu hc] at hfree
          cases hfree
      · have lt : homeN ts.length olds pl nw as < homeN ts.length olds (pl.set t (nw.getD t 0)) nw as := flen_lt (y := t) (fun u mu hu => by
          unfold homeL at hu ⊢
          rw [hgd]
          by_cases c : t = u
          · subst c
            simp at hu
            exact (hwt (by simpa using hu.2)).elim
          · rw [if_neg c]; exact hu) (List.mem_range.mpr ht) (by unfold homeL; rw [decide_eq_false hwt, Bool.and_false]) (by unfold homeL; rw [hgd, if_pos rfl, decide_eq_true hel, decide_eq_false mt]; simp)
        rcases S2 with S2 | ⟨S2, _⟩ <;> omega
theorem aside_ok {ts : List (Int × Int)} {olds nw pl : List Int} {fs : List (Nat × Int)} {as : List Nat} (ho : okT ts) (hw : nw.length = ts.length) (hs : sepG ts nw) (hb : ∀ t, t < ts.length → 0 ≤ nw.getD t 0 ∧ nw.getD t 0 % (thG ts t).2 = 0) (M : MovOk ts olds nw pl fs as)
    (hf : (wtsG ts.length pl nw).find? (freeAt ts pl nw) = none) {t : Nat} {F : List Nat} (hF : (wtsG ts.length pl nw).filter (notIn as) = t :: F) :
    MovOk ts olds nw (pl.set t (up (aboveG ts pl nw) (thG ts t).2)) (fs ++ [(t, up (aboveG ts pl nw) (thG ts t).2)]) (as ++ [t]) := by
  have mt : t ∈ (wtsG ts.length pl nw).filter (notIn as) := hF ▸ List.mem_cons_self
  obtain ⟨m1, m2⟩ := List.mem_filter.mp mt
  obtain ⟨ht, hwt⟩ := wts_mem.mp m1
  have mta : t ∉ as := by simpa [notIn] using m2
  have hob := okT_G ho ht
  obtain ⟨u1, u2⟩ := up_is (e := aboveG ts pl nw) (b := (thG ts t).2) (by omega)
  have h5 := end_le (t := t) ht hw
  have h6 : hgtG ts nw ≤ aboveG ts pl nw ∧ hgtG ts pl ≤ aboveG ts pl nw := by unfold aboveG; split <;> omega
  have hpb : up (aboveG ts pl nw) (thG ts t).2 % (thG ts t).2 = 0 := up_mod
  have hp0 := (hb t ht).1
  generalize up (aboveG ts pl nw) (thG ts t).2 = p at *
  have hpne : p ≠ nw.getD t 0 := by omega
  have hl : t < pl.length := M.len ▸ ht
  have hgd : ∀ u, (pl.set t p).getD u 0 = if t = u then p else pl.getD u 0 := fun u => getD_set hl
  have hel := else_of M ht hwt
  have hmem : ∀ u, t ≠ u → (u ∈ as ++ [t] ↔ u ∈ as) := fun u c => by
    rw [List.mem_append, List.mem_singleton]
    exact ⟨fun h => h.elim id fun e => (c e.symm).elim, .inl⟩
  refine ⟨by simp [M.len], fun u hu mu hwu => ?_, ?_, fun u hu => ?_, fun u hu mu => ?_, fun u hu => ?_, ?_, fun u mu => ?_, fun hsl => ?_⟩
  · rw [hgd] at hwu ⊢
    by_cases c : t = u
    · subst c; rw [if_pos rfl]; omega
    · rw [if_neg c] at hwu ⊢; exact M.high u hu ((hmem u c).mp mu) hwu
  · rw [List.map_append, List.map_cons, List.map_nil, play_snoc M.play]
    refine play_one ht (by omega) hpb (free_of fun u hu => ?_)
    unfold clashG
    by_cases c : u = t
    · simp [c]
    · have h7 := end_le (t := u) hu M.len
      have : lieO p (thG ts t).1 (pl.getD u 0) (thG ts u).1 = false := lieO_false.mpr (by omega)
      rw [this, Bool.and_false]
  · rw [cnt_snoc]
    have h1 := M.cnt u hu
    by_cases c : t = u
    · subst c
      have h3 : valG (pl.set t p) nw (as ++ [t]) t = 1 := by unfold valG; rw [hgd, if_pos rfl, if_neg hpne, if_pos (by simp)]
      have h4 : valG pl nw as t = 2 := by unfold valG; rw [if_neg hwt, if_neg mta]
      rw [if_pos rfl]
      omega
    · rw [if_neg c, val_set hl c (hmem u c)]
      exact h1
  · have c : t ≠ u := fun e => mu (by rw [← e]; simp)
    rw [cnt_snoc, hgd, if_neg c, if_neg c]
    exact M.once u hu fun m => mu ((hmem u c).mpr m)
  · rw [hgd]
    by_cases c : t = u
    · subst c; exact .inr (.inr (by simp))
    · rw [if_neg c]
      rcases M.old u hu with h | h | h
      · exact .inl h
      · exact .inr (.inl h)
      · exact .inr (.inr ((hmem u c).mpr h))
  · rw [List.nodup_append]
    exact ⟨M.nd, by simp, fun a ma b mb e => mta (by rw [List.mem_singleton.mp mb] at e; exact e ▸ ma)⟩
  · rcases List.mem_append.mp mu with m | m
    · exact M.asn u m
    · rw [List.mem_singleton.mp m]; exact ⟨ht, hel⟩
  · obtain ⟨S1, S2⟩ := M.side hsl
    have hno := stuck_aside ho hw hs M hsl hf
    obtain ⟨u, hu, hut, hua, hnu, hocc⟩ := stuck_none ho hw hs M hsl hf t m1
    have S2' : as.length ≤ homeN ts.length olds pl nw as := by
      rcases S2 with S2 | ⟨_, a, _, ma, ha, hwa, _⟩
      · exact S2
      · exact (hwa (hno a ma)).elim
    have mono : homeN ts.length olds pl nw as ≤ homeN ts.length olds (pl.set t p) nw (as ++ [t]) := flen_le fun v mv hv => by
      unfold homeL at hv ⊢
      rw [hgd]
      by_cases c : t = v
      · subst c
        simp at hv
        exact (hwt (by simpa using hv.2)).elim
      · rw [if_neg c]
        simp only [hmem v c]
        exact hv
    have only : ∀ a, a ∈ as ++ [t] → (pl.set t p).getD a 0 ≠ nw.getD a 0 → a = t := fun a ma ha => by
      rw [hgd] at ha
      by_cases c : t = a
      · exact c.symm
      · rw [if_neg c] at ha
        exact (ha (hno a ((hmem a c).mp ma))).elim
    refine ⟨fun a b ma mb ha hb2 => (only a ma ha).trans (only b mb hb2).symm, ?_⟩
    rcases Nat.lt_or_ge (homeN ts.length olds (pl.set t p) nw (as ++ [t])) (as ++ [t]).length with z | z
    · right
      have hlen : (as ++ [t]).length = as.length + 1 := by simp
      refine ⟨by omega, t, u, by simp, ht, ?_, hu, hut, ?_⟩
      · rw [hgd, if_pos rfl]; exact hpne
      · rw [hgd, if_neg (Ne.symm hut)]; exact hocc
    · left; exact z
end FM
namespace FM
open PySem PySem.Spec L2 PyProof.Rows
theorem wF_ex {r : FR} {p : O → Prop} (h : wF r fun o _ => p o) : ∃ o outs, r = .ret o outs ∧ p o := by
  cases r with
  | ret o outs => exact ⟨o, outs, rfl, h⟩
  | _ => exact h.elim
theorem next_two {ts : List (Int × Int)} {olds pl nw : List Int} {fs : List (Nat × Int)} {as : List Nat} (ho : okT ts) (hw : nw.length = ts.length) (hne : pl ≠ nw) (hs : sepG ts nw) (hb : ∀ t, t < ts.length → 0 ≤ nw.getD t 0 ∧ nw.getD t 0 % (thG ts t).2 = 0) (M : MovOk ts olds nw pl fs as) :
    ∃ t p, nextG ts pl nw as = (t, p) ∧ t < ts.length ∧ pl.getD t 0 ≠ nw.getD t 0 ∧ ((p = nw.getD t 0 ∧ MovOk ts olds nw (pl.set t p) (fs ++ [(t, p)]) as) ∨ (t ∉ as ∧ p ≠ nw.getD t 0 ∧ hgtG ts nw ≤ p ∧ p ≤ aboveG ts pl nw + 64 ∧ MovOk ts olds nw (pl.set t p) (fs ++ [(t, p)]) (as ++ [t]))) := by
  cases hf : (wtsG ts.length pl nw).find? (freeAt ts pl nw) with
  | some t =>
    obtain ⟨ht, hwt⟩ := wts_mem.mp (List.mem_of_find?_eq_some hf)
    exact ⟨t, nw.getD t 0, by unfold nextG; rw [hf], ht, hwt, .inl ⟨rfl, direct_ok ho hw hs hb M hf⟩⟩
  | none =>
    have hne2 := next_ok ho M.len hw hne hs M.high hf
    cases hF : (wtsG ts.length pl nw).filter (notIn as) with
    | nil => exact (hne2 hF).elim
    | cons t F =>
      have mt : t ∈ (wtsG ts.length pl nw).filter (notIn as) := hF ▸ List.mem_cons_self
      obtain ⟨m1, m2⟩ := List.mem_filter.mp mt
      obtain ⟨ht, hwt⟩ := wts_mem.mp m1
      have hbb := okT_G ho ht
      obtain ⟨u1, u2⟩ := up_is (e := aboveG ts pl nw) (b := (thG ts t).2) (by omega)
      have h5 := end_le (t := t) ht hw
      have h6 : hgtG ts nw ≤ aboveG ts pl nw := by unfold aboveG; split <;> omega
      have Z := aside_ok ho hw hs hb M hf hF
      refine ⟨t, up (aboveG ts pl nw) (thG ts t).2, by unfold nextG; rw [hf]; simp only; unfold sideG; rw [hF], ht, hwt, .inr ⟨by simpa [notIn] using m2, by omega, by omega, by omega, Z⟩⟩
theorem mov_init {ts : List (Int × Int)} {olds nw : List Int} (hl : olds.length = ts.length) : MovOk ts olds nw olds [] [] :=
  ⟨hl, fun t _ m => (by cases m), rfl, fun t ht => by simp [cntG], fun t ht _ => by simp [cntG], fun t ht => .inl rfl, List.nodup_nil, fun t m => (by cases m), fun _ => ⟨fun a b m => (by cases m), .inl (Nat.zero_le _)⟩⟩
def bdG (k : Nat) : Int := 1000000000000 + (40 - (k : Int)) * 2000000000
def okM (n : Nat) (B : Int) (fs : List (Nat × Int)) : Prop := ∀ q ∈ fs, q.1 < n ∧ 0 ≤ q.2 ∧ q.2 ≤ B
def movI (ts : List (Int × Int)) (olds nw : List Int) (k : Nat) (ρ : List O) : Prop := ∃ (pl : List Int) (fs : List (Nat × Int)) (as : List Nat) (x6 x7 : O),
  ρ = [.fz (.tuple (ts.map thD)), .fz (.list (olds.map .int)), .fz (.list (nw.map .int)), .lst (pl.map .int), .lst (fs.map mvD), .lst (as.map natD), x6, x7] ∧
  MovOk ts olds nw pl fs as ∧ k = measG ts.length pl nw as ∧ (∀ t, 0 ≤ pl.getD t 0 ∧ pl.getD t 0 ≤ bdG k) ∧ okM ts.length (bdG 0) fs ∧ fs.length + k ≤ 24 ∧ as.length + k ≤ 24
theorem moves_w {ts : List (Int × Int)} {olds nw : List Int} (ho : okT ts) (hn : ts.length ≤ 12) (hl : olds.length = ts.length) (hw : nw.length = ts.length) (hs : sepG ts nw) (hbd : ∀ t, t < ts.length → 0 ≤ nw.getD t 0 ∧ nw.getD t 0 % (thG ts t).2 = 0)
    (hbo : ∀ t, 0 ≤ olds.getD t 0 ∧ olds.getD t 0 ≤ 1000000000000) (hbn : ∀ t, 0 ≤ nw.getD t 0 ∧ nw.getD t 0 ≤ 1000000000000) :
    wF (f_moves [.fz (.tuple (ts.map thD)), .fz (.list (olds.map .int)), .fz (.list (nw.map .int))]) (fun o _ => ∃ fs as, o = .lst (fs.map mvD) ∧ okM ts.length (bdG 0) fs ∧ fs.length ≤ 24 ∧ MovOk ts olds nw nw fs as) := by
  unfold f_moves m_moves
  rw [wF_defN, wS_seq]
  simp
  rw [wS_seq]
  have hm0 : measG ts.length olds nw [] ≤ 2 * ts.length := meas_le
  refine wS_whileI (movI ts olds nw) (measG ts.length olds nw []) ⟨olds, [], [], _, _, rfl, mov_init hl, rfl, (fun t => ⟨(hbo t).1, by have := hbo t; unfold bdG; omega⟩), (fun q m => by cases m), by simp; omega, by simp; omega⟩ ?_
  rintro k ρ ⟨pl, fs, as, x6, x7, rfl, M, hk, hb, hfs, hfl, hal⟩
  have hpl := M.len
  have hh := M.high
  have ene := oNe_ints (x := .lst (pl.map .int)) (y := .fz (.list (nw.map .int))) rfl rfl
  by_cases hne : pl = nw
  · subst hne
    simp [ene]
    exact ⟨fs, rfl, hfs, by omega, as, M⟩
  · obtain ⟨t, p, en, ht, hwt, hp⟩ := next_two ho hw hne hs hbd M
    have qn := q_next (as := as) ho (by omega) hpl hw (next_ok ho hpl hw hne hs hh)
    rw [en] at qn
    simp [ene, hne]
    rw [wS_seq]
    have e2 := at_pl (pl := nw) (t := t) (by omega)
    have es := fSetI_n (v := p) (hpl ▸ ht : t < pl.length)
    have hfz : fs.length < 16777216 := by omega
    have ap1 : fAppend (as.map natD) [.int (t : Int)] = some (.none, as.map natD ++ [.int (t : Int)]) := fAppend_eq (by simp [sizeLine]; omega)
    have ap2 : fAppend (fs.map mvD) [.tuple [.int (t : Int), .int p]] = some (.none, fs.map mvD ++ [.tuple [.int (t : Int), .int p]]) := fAppend_eq (by simp [sizeLine]; omega)
    have hle : ∀ as', (∀ u, u ≠ t → (u ∈ as' ↔ u ∈ as)) → valG (pl.set t p) nw as' t < valG pl nw as t → measG ts.length (pl.set t p) nw as' < k := fun as' ha hv => by
      rw [hk]
      refine sum_lt (fun u mu => ?_) ⟨t, List.mem_range.mpr ht, hv⟩
      by_cases c : u = t
      · rw [c]; omega
      · have : valG (pl.set t p) nw as' u = valG pl nw as u := by
          unfold valG
          rw [getD_set (hpl ▸ ht : t < pl.length), if_neg (Ne.symm c)]
          simp only [ha u c]
        omega
    have hab : aboveG ts pl nw ≤ bdG k + 1000000000 := by
      have hk24 : k ≤ 24 := by omega
      have h0 : (0 : Int) ≤ bdG k + 1000000000 := by unfold bdG; omega
      have h1 : hgtG ts pl ≤ bdG k + 1000000000 := hgt_le h0 hpl fun t ht => by
        have := okT_G ho ht
        have := hb t
        omega
      have h2 : hgtG ts nw ≤ bdG k + 1000000000 := hgt_le h0 hw fun t ht => by
        have := okT_G ho ht
        have := hbn t
        have : (1000000000000 : Int) ≤ bdG k := by unfold bdG; omega
        omega
      unfold aboveG
      split <;> omega
    have hp0 : 0 ≤ p ∧ p ≤ bdG k + 1100000000 := by
      have hbk : (1000000000000 : Int) ≤ bdG k := by unfold bdG; omega
      rcases hp with ⟨hp, _⟩ | ⟨_, _, hp1, hp2, _⟩
      · have := hbn t
        omega
      · have h1 := hbn t
        have h2 := end_le (t := t) ht hw
        have h3 := okT_G ho ht
        omega
    have hgd : ∀ u, (pl.set t p).getD u 0 = if t = u then p else pl.getD u 0 := fun u => getD_set (hpl ▸ ht : t < pl.length)
    have fin : ∀ as' : List Nat, measG ts.length (pl.set t p) nw as' < k → MovOk ts olds nw (pl.set t p) (fs ++ [(t, p)]) as' → as'.length ≤ as.length + 1 → ∃ m, m < k ∧ movI ts olds nw m [.fz (.tuple (ts.map thD)), .fz (.list (olds.map .int)), .fz (.list (nw.map .int)), .lst ((pl.set t p).map .int), .lst ((fs ++ [(t, p)]).map mvD), .lst (as'.map natD), .fz (.int (t : Int)), .fz (.int p)] := fun as' h1 h2 h3 => by
      have hbk : bdG k + 2000000000 ≤ bdG (measG ts.length (pl.set t p) nw as') := by unfold bdG; omega
      have hb0 : bdG (measG ts.length (pl.set t p) nw as') ≤ bdG 0 := by unfold bdG; omega
      refine ⟨_, h1, pl.set t p, fs ++ [(t, p)], as', _, _, rfl, h2, rfl, fun u => ?_, fun q m => ?_, by simp; omega, by omega⟩
      · rw [hgd]
        split
        · omega
        · have := hb u; omega
      · rcases List.mem_append.mp m with m | m
        · exact hfs q m
        · rw [List.mem_singleton.mp m]
          exact ⟨ht, hp0.1, by simp only; omega⟩
    have hv2 : 0 < valG pl nw as t := by unfold valG; rw [if_neg hwt]; split <;> omega
    rcases hp with ⟨hp, M2⟩ | ⟨hp1, hp2, hp3, hp4, M2⟩
    · have f1 := fin as (hle as (fun _ _ => Iff.rfl) (by unfold valG at hv2 ⊢; rw [hgd, if_pos rfl, if_pos hp]; exact hv2)) M2 (by omega)
      rw [← hp] at e2
      simp [qCall, flatOs, flatO, toPDs, qn, imm_mv]
      simp [mvD]
      rw [wS_seq]
      simp [e2]
      rw [wS_seq]
      simp [es, -fSetI_i, sizeLine, ap2]
      refine ⟨_, _, ⟨rfl, rfl⟩, ?_⟩
      simpa [mvD, natD] using f1
    · have f1 := fin (as ++ [t]) (hle (as ++ [t]) (fun u hu => by simp [hu]) (by unfold valG; rw [hgd, if_pos rfl, if_neg hp2, if_neg hwt, if_neg hp1, if_pos (by simp)]; omega)) M2 (by simp)
      generalize nw.getD t 0 = b at e2 hp2
      simp [qCall, flatOs, flatO, toPDs, qn, imm_mv]
      simp [mvD]
      rw [wS_seq]
      simp [e2, hp2, ap1]
      refine ⟨_, _, ⟨rfl, rfl⟩, ?_⟩
      rw [wS_seq]
      simp [es, -fSetI_i, sizeLine, ap2]
      refine ⟨_, _, ⟨rfl, rfl⟩, ?_⟩
      simpa [mvD, natD] using f1
end FM
namespace FM
open PySem PySem.Spec L2 PyProof.Rows
theorem lcW_mono {f : QG} {e : M O} {vs : List Nat} {Q Q' : List PD → List O → Prop} : ∀ {xs acc : List PD} {ρ : List O}, lcW f e vs xs acc ρ Q → (∀ a r, Q a r → Q' a r) → lcW f e vs xs acc ρ Q'
  | [], acc, ρ, h, hq => hq _ _ h
  | x :: xs, acc, ρ, h, hq => by
    obtain ⟨ρ1, e1, h⟩ := h
    refine ⟨ρ1, e1, ?_⟩
    cases e2 : e ρ1 with
    | ok o ρ2 =>
      rw [e2] at h
      obtain ⟨d, rfl, h1, h2⟩ := h
      exact ⟨d, rfl, h1, lcW_mono h2 hq⟩
    | _ => rw [e2] at h; exact h.elim
theorem up_w {n b : Int} {Q : O → List O → Prop} (hb : 0 < b) (h : Q (.fz (.int (up n b))) [.dead, .dead]) : wF (f__law_up [.fz (.int n), .fz (.int b)]) Q := by
  unfold f__law_up m__law_up
  have e := up_neg (n := n) hb
  simp (disch := omega) [oMod_i, e]
  exact h
theorem erase_permA {α : Type} : ∀ {xs : List α} {i : Nat} {y : α}, xs[i]? = some y → xs.Perm (y :: xs.eraseIdx i)
  | x :: xs, 0, y, e => by
    simp at e
    subst e
    exact .refl _
  | x :: xs, i + 1, y, e => by
    have ih := erase_permA (xs := xs) (i := i) (y := y) (by simpa using e)
    exact (List.Perm.cons x ih).trans (List.Perm.swap y x _)
  | [], _, _, e => by simp at e
theorem nodup_ne {L : List Int} (h : L.Nodup) {i j : Nat} (hi : i < L.length) (hj : j < L.length) (hne : i ≠ j) : L[i] ≠ L[j] := by
  have p := List.pairwise_iff_getElem.mp h
  rcases Nat.lt_or_gt_of_ne hne with c | c
  · exact p i j hi hj c
  · exact (p j i hj hi c).symm
theorem pop_nodup {α : Type} {L : List α} {i : Nat} {t : α} (hn : L.Nodup) (e : L[i]? = some t) : (L.eraseIdx i).Nodup ∧ t ∉ L.eraseIdx i ∧ (∀ u, u ∈ L ↔ (u = t ∨ u ∈ L.eraseIdx i)) ∧ (L.eraseIdx i).length + 1 = L.length := by
  have p := (erase_permA e).symm
  have n2 := p.nodup_iff.mpr hn
  obtain ⟨n3, n4⟩ := List.nodup_cons.mp n2
  refine ⟨n4, n3, fun u => ?_, ?_⟩
  · rw [← p.mem_iff, List.mem_cons]
  · have := p.length_eq
    simpa using this
def gapG (z : Int) (nw : List Int) : Prop := ∀ t u, t < nw.length → u < nw.length → u ≠ t → nw.getD t 0 + z ≤ nw.getD u 0 ∨ nw.getD u 0 + z ≤ nw.getD t 0
def slotI (z hi : Int) (av : List Int) : Prop := av.Nodup ∧ ∀ v ∈ av, 0 ≤ v ∧ v ≤ hi
theorem gap_of {z hi : Int} (hz : 1 ≤ z) {av : List Int} (h : slotI z hi av) : gapG z (av.map fun v => z * v) := by
  intro t u ht hu hne
  rw [List.length_map] at ht hu
  have e : ∀ i, i < av.length → (av.map fun v => z * v).getD i 0 = z * av.getD i 0 := fun i hi => by simp [hi]
  rw [e t ht, e u hu]
  have hd : av.getD t 0 ≠ av.getD u 0 := by
    simp [ht, hu]
    exact nodup_ne h.1 ht hu (Ne.symm hne)
  rcases Int.lt_or_gt_of_ne hd with c | c
  · left
    have : z * (av.getD t 0 + 1) ≤ z * av.getD u 0 := Int.mul_le_mul_of_nonneg_left (by omega) (by omega)
    rw [Int.mul_add] at this
    omega
  · right
    have : z * (av.getD u 0 + 1) ≤ z * av.getD t 0 := Int.mul_le_mul_of_nonneg_left (by omega) (by omega)
    rw [Int.mul_add] at this
    omega
def accD (z : Int) (av : List Int) : List PD := (av.map fun v => z * v).map .int
theorem accD_len {z : Int} {av : List Int} : (accD z av).length = av.length := by simp [accD]
theorem accD_snoc {z v : Int} {av : List Int} : accD z av ++ [.int (z * v)] = accD z (av ++ [v]) := by simp [accD]
def slotE (s m z : Int) (n len : Nat) (acc : List PD) (ρ : List O) : Prop := ∃ (av : List Int) (a c : Int) (x3 x4 : O), acc = accD z av ∧ ρ = [.lst [.int a, .int s, .int c], .fz (.int m), .fz (.int z), x3, x4] ∧ slotI z 14 av ∧ av.length = len ∧ 0 ≤ a ∧ 0 ≤ c ∧ c ≤ ((n + 20 : Nat) : Int)
theorem slots_spec {a s c m z : Int} {n : Nat} {Q : O → List O → Prop} (ha : 0 ≤ a) (hs : 0 ≤ s) (hs2 : s < 2 ^ 62) (hc : 0 ≤ c) (hc2 : c ≤ n) (hn : n < 2 ^ 39) (hm : 0 ≤ m) (hm2 : m ≤ 12) (hz : 1 ≤ z) (hz2 : z ≤ 12)
    (h : ∀ nw a' c', (nw.length : Int) = m → (∀ v ∈ nw, (0 ≤ v ∧ v ≤ 1000) ∧ ∃ w, v = z * w) → gapG z nw → 0 ≤ a' → 0 ≤ c' → c' ≤ ((n + 20 : Nat) : Int) → Q (.lst (nw.map .int)) [.lst [.int a', .int s, .int c'], .dead, .dead]) : wF (f__law_slots [.lst [.int a, .int s, .int c], .fz (.int m), .fz (.int z)]) Q := by
  unfold f__law_slots m__law_slots
  rw [wF_defN, wS_seq]
  simp (maxSteps := 2000000) (disch := omega) [List.getElem?_cons_zero]
  refine draw_spec ha hs hs2 hc hc2 (by omega) (by decide) (by decide) fun r a1 c1 r0 r1 ha1 hc1 hc1' => ?_
  simp
  refine ⟨by omega, by omega, ?_⟩
  refine wM_lcI ?_
  have hb : big62 m = true := big62_s (by omega) (by omega)
  simp [hb]
  have go : ∀ (xs : List PD) (L av : List Int) (a c : Int) (x4 : O) (i : Nat), L.Nodup → (∀ v ∈ L, 0 ≤ v ∧ v ≤ 14 ∧ v ∉ av) → slotI z 14 av → xs.length ≤ L.length → L.length ≤ 14 → i + xs.length ≤ 12 → av.length = i → 0 ≤ a → 0 ≤ c → c ≤ ((n + 1 + i : Nat) : Int) →
      lcW (fName 4) (mOp oMul (mLift (qVar 2)) (mMt 3 fPopAt (mCons (frzM (mCall f__law_draw [some 0, none] (mRef 0 (mCons (mLift (qCb oLen (qCons (qVar 3) qNil))) mNil)))) mNil))) [4] xs (accD z av) [.lst [.int a, .int s, .int c], .fz (.int m), .fz (.int z), .lst (L.map .int), x4] (slotE s m z n (i + xs.length)) := by
    intro xs
    induction xs with
    | nil =>
      intro L av a c x4 i h1 h2 h3 h4 h5 h6 h7 h8 h9 h10
      exact ⟨av, a, c, _, _, rfl, rfl, h3, by simpa using h7, h8, h9, by simp at h6; omega⟩
    | cons x xs ih =>
      intro L av a c x4 i h1 h2 h3 h4 h5 h6 h7 h8 h9 h10
      simp at h4 h6
      refine ⟨_, rfl, ?_⟩
      simp
      refine draw_spec h8 hs hs2 h9 h10 (by omega) (by omega) (by omega) fun r a1 c1 r0 r1 ha1 hc1 hc1' => ?_
      obtain ⟨d, ed, ep⟩ := fPopAt_i (ds := L.map .int) (r := r) r0 (by simpa using r1) (by simp; omega)
      rw [List.getElem?_map] at ed
      obtain ⟨v, ev, rfl⟩ := Option.map_eq_some_iff.mp ed
      obtain ⟨p1, p2, p3, p4⟩ := pop_nodup h1 ev
      rw [map_erase] at ep
      obtain ⟨g1, g2, g3⟩ := h2 v ((p3 v).mpr (.inl rfl))
      simp (disch := omega) [ep, oMul_r]
      refine ⟨_, _, ⟨rfl, rfl⟩, _, oMul_r (by omega) (by omega), by simp [accD_len, sizeLine]; omega, ?_⟩
      have e1 : i + (xs.length + 1) = (i + 1) + xs.length := by omega
      rw [accD_snoc, e1]
      refine ih (L.eraseIdx r.toNat) (av ++ [v]) a1 c1 _ (i + 1) p1 (fun w m => ?_) ⟨?_, fun w m => ?_⟩ (by omega) (by omega) (by omega) (by simp [h7]) ha1 hc1 (by omega)
      · obtain ⟨k1, k2, k3⟩ := h2 w ((p3 w).mpr (.inr m))
        refine ⟨k1, k2, fun mm => ?_⟩
        rcases List.mem_append.mp mm with mm | mm
        · exact k3 mm
        · rw [List.mem_singleton.mp mm] at m
          exact p2 m
      · rw [List.nodup_append]
        refine ⟨h3.1, by simp, fun u mu w mw e => ?_⟩
        rw [List.mem_singleton.mp mw] at e
        exact g3 (e ▸ mu)
      · rcases List.mem_append.mp m with m | m
        · exact h3.2 w m
        · rw [List.mem_singleton.mp m]
          exact ⟨g1, g2⟩
  have hr : rngD 0 (m + r).toNat = (rngI (m + r).toNat).map .int := rngD_map
  rw [hr]
  have hlen : (rngI (m + r).toNat).length = (m + r).toNat := by simp [rngI]
  have hnd : (rngI (m + r).toNat).Nodup := by
    unfold rngI
    refine List.pairwise_map.mpr ?_
    exact List.Pairwise.imp (fun h e => h (by omega)) List.nodup_range
  have g := go (rngD 0 m.toNat) (rngI (m + r).toNat) [] a1 c1 .dead 0 hnd (fun v mv => by
    have := rngI_mem mv
    exact ⟨by omega, by omega, by simp⟩) ⟨by simp, fun v m => by cases m⟩ (by rw [rngD_len, hlen]; omega) (by rw [hlen]; omega) (by rw [rngD_len]; omega) rfl ha1 hc1 (by omega)
  refine lcW_mono g fun acc ρ hq => ?_
  obtain ⟨av, a2, c2, x3, x4, rfl, rfl, k1, k2, k3, k4, k5⟩ := hq
  rw [rngD_len, Nat.zero_add] at k2
  refine h (av.map fun v => z * v) a2 c2 (by simp; omega) (fun v mv => ?_) (gap_of hz k1) k3 k4 k5
  obtain ⟨u, mu, rfl⟩ := List.mem_map.mp mv
  obtain ⟨u1, u2⟩ := k1.2 u mu
  have h1 := Int.mul_nonneg (by omega : 0 ≤ z) u1
  have h2 : z * u ≤ 12 * 14 := Int.mul_le_mul hz2 u2 u1 (by omega)
  exact ⟨⟨h1, by omega⟩, u, rfl⟩
end FM
namespace FM
open PySem PySem.Spec L2 PyProof.Rows
def aptI (ts : List (Int × Int)) (s : Int) (n k : Nat) (ρ : List O) : Prop := ∃ (L : List Nat) (pl : List Int) (a c at' : Int) (x5 : O),
  ρ = [.lst [.int a, .int s, .int c], .fz (.tuple (ts.map thD)), .lst (L.map natD), .fz (.int at'), .lst (pl.map .int), x5] ∧
  L.Nodup ∧ (∀ t ∈ L, t < ts.length) ∧ L.length = k ∧ k ≤ ts.length ∧ pl.length = ts.length ∧ 0 ≤ a ∧ 0 ≤ c ∧ c + 4 * (k : Int) ≤ ((n + 4 * ts.length : Nat) : Int) ∧ 0 ≤ at' ∧ at' + 1100000000 * (k : Int) ≤ 1100000000 * (ts.length : Int) ∧
  (∀ t, t < ts.length → t ∉ L → 0 ≤ pl.getD t 0 ∧ pl.getD t 0 + (thG ts t).1 ≤ at' ∧ pl.getD t 0 % (thG ts t).2 = 0) ∧
  (∀ t u, t < ts.length → u < ts.length → t ∉ L → u ∉ L → u ≠ t → lieO (pl.getD t 0) (thG ts t).1 (pl.getD u 0) (thG ts u).1 = false)
theorem natD_int {L : List Nat} : (L.map fun t : Nat => (t : Int)).map PyData.int = L.map natD := by rw [List.map_map]; rfl
theorem rngD_nat {n : Nat} : rngD 0 n = (List.range n).map natD := by
  unfold rngD
  apply List.map_congr_left
  intro i _
  simp [natD]
theorem apart_spec {ts : List (Int × Int)} {a s c : Int} {n : Nat} {Q : O → List O → Prop} (ho : okT ts) (ht : ts.length ≤ 12) (ha : 0 ≤ a) (hs : 0 ≤ s) (hs2 : s < 2 ^ 62) (hc : 0 ≤ c) (hc2 : c ≤ n) (hn : n < 2 ^ 39)
    (h : ∀ (pl : List Int) a' c', pl.length = ts.length → (∀ t, t < ts.length → 0 ≤ pl.getD t 0 ∧ pl.getD t 0 + (thG ts t).1 ≤ 14000000000 ∧ pl.getD t 0 % (thG ts t).2 = 0) → sepG ts pl → 0 ≤ a' → 0 ≤ c' → c' ≤ ((n + 48 : Nat) : Int) → Q (.lst (pl.map .int)) [.lst [.int a', .int s, .int c'], .dead]) : wF (f__law_apart [.lst [.int a, .int s, .int c], .fz (.tuple (ts.map thD))]) Q := by
  unfold f__law_apart m__law_apart
  rw [wF_defN, wS_seq]
  have hm := oMulN_i (ds := [.int 0]) (b := (ts.length : Int)) (by omega) (by omega) (by simp [sizeLine]; omega)
  rw [Int.toNat_natCast, zeros_flat] at hm
  have hb : big62 (ts.length : Int) = true := big62_s (by omega) (by omega)
  have hz : ts.length ≤ 2 ^ 24 := by omega
  simp [hm, hb, hz, rngD_nat, sizeLine]
  rw [wS_seq]
  refine wS_whileI (aptI ts s n) ts.length ⟨List.range ts.length, List.replicate ts.length 0, a, c, 0, .dead, by simp, List.nodup_range, (fun t m => List.mem_range.mp m), by simp, Nat.le_refl _, by simp, ha, hc, by omega, by omega, by omega, (fun t ht m => (m (List.mem_range.mpr ht)).elim), (fun t u ht hu m => (m (List.mem_range.mpr ht)).elim)⟩ ?_
  rintro k ρ ⟨L, pl, a, c, at', x5, rfl, h1, h2, h3, h4, h5, h6, h7, h8, h9, h10, h11, h12⟩
  have ene := oNe_ints (x := .lst (L.map natD)) (y := .fz (.list [])) (l := L.map fun t : Nat => (t : Int)) (r := []) (by rw [natD_int]; rfl) rfl
  by_cases hL : L = []
  · subst hL
    simp at ene
    simp [ene]
    refine h pl a c h5 (fun t ht => ?_) (fun t u ht hu hne => h12 t u ht hu (by simp) (by simp) hne) h6 h7 (by omega)
    obtain ⟨q1, q2, q3⟩ := h11 t ht (by simp)
    exact ⟨q1, by omega, q3⟩
  · have hne : ¬ ((L.map fun t : Nat => (t : Int)) = []) := by simpa using hL
    rw [decide_eq_false hne] at ene
    have hk : 0 < L.length := List.length_pos_iff.mpr hL
    simp [ene, sizeLine]
    rw [wS_seq]
    simp
    refine draw_spec (n := n + 4 * (ts.length - k)) h6 hs hs2 h7 (by omega) (by omega) (by omega) (by omega) fun r a1 c1 r0 r1 ha1 hc1 hc1' => ?_
    obtain ⟨d, ed, ep⟩ := fPopAt_i (ds := L.map natD) (r := r) r0 (by simpa using r1) (by simp; omega)
    rw [List.getElem?_map] at ed
    obtain ⟨t, et, rfl⟩ := Option.map_eq_some_iff.mp ed
    obtain ⟨p1, p2, p3, p4⟩ := pop_nodup h1 et
    rw [map_erase] at ep
    have hlt := h2 t ((p3 t).mpr (.inl rfl))
    simp [ep]
    refine ⟨_, _, ⟨rfl, rfl⟩, ?_⟩
    rw [wS_seq]
    simp
    refine draw_spec (n := n + 4 * (ts.length - k) + 1) ha1 hs hs2 hc1 (by omega) (by omega) (by omega) (by omega) fun r2 a2 c2 r2a r2b ha2 hc2 hc2' => ?_
    simp [sizeLine]
    refine draw_spec (n := n + 4 * (ts.length - k) + 2) ha2 hs hs2 hc2 (by omega) (by omega) (by omega) (by omega) fun r3 a3 c3 r3a r3b ha3 hc3 hc3' => ?_
    obtain ⟨z, z1, z2, z3⟩ := pickI (xs := [0, 0, r2]) (lo := 0) (hi := 8) (i := r3) (by
      intro x hx
      simp at hx
      rcases hx with rfl | rfl <;> omega) r3a (by simpa using r3b)
    simp only [List.map_cons, List.map_nil] at z3
    have e2 := at_thG hlt
    have hok := okT_G ho hlt
    have es := fSetI_n (v := up (at' + z) (thG ts t).2) (h5 ▸ hlt : t < pl.length)
    have hgd : ∀ u, (pl.set t (up (at' + z) (thG ts t).2)).getD u 0 = if t = u then up (at' + z) (thG ts t).2 else pl.getD u 0 := fun u => getD_set (h5 ▸ hlt : t < pl.length)
    have e3 := at_pl (pl := pl.set t (up (at' + z) (thG ts t).2)) (t := t) (by simp; omega)
    rw [hgd, if_pos rfl] at e3
    obtain ⟨u1, u2⟩ := up_is (e := at' + z) (b := (thG ts t).2) (by omega)
    have fin : aptI ts s n (L.eraseIdx r.toNat).length [.lst [.int a3, .int s, .int c3], .fz (.tuple (ts.map thD)), .lst ((L.eraseIdx r.toNat).map natD), .fz (.int (up (at' + z) (thG ts t).2 + (thG ts t).1)), .lst ((pl.set t (up (at' + z) (thG ts t).2)).map .int), .fz (natD t)] := by
      refine ⟨_, _, _, _, _, _, rfl, p1, fun u m => h2 u ((p3 u).mpr (.inr m)), rfl, by omega, by simp [h5], ha3, by omega, by omega, by omega, by omega, fun u hu m => ?_, fun u v hu hv mu mv hne => ?_⟩
      · rw [hgd]
        by_cases c : t = u
        · subst c
          rw [if_pos rfl]
          exact ⟨by omega, by omega, up_mod⟩
        · rw [if_neg c]
          obtain ⟨q1, q2, q3⟩ := h11 u hu fun mm => by
            rcases (p3 u).mp mm with e | e
            · exact c e.symm
            · exact m e
          exact ⟨q1, by omega, q3⟩
      · have out : ∀ w, w ∉ L.eraseIdx r.toNat → t ≠ w → w ∉ L := fun w mw c mm => by
          rcases (p3 w).mp mm with e | e
          · exact c e.symm
          · exact mw e
        rw [hgd, hgd]
        by_cases cu : t = u
        · subst cu
          have cv : ¬ t = v := fun e => hne e.symm
          rw [if_pos rfl, if_neg cv]
          obtain ⟨q1, q2, q3⟩ := h11 v hv (out v mv cv)
          exact lieO_false.mpr (by omega)
        · by_cases cv : t = v
          · subst cv
            rw [if_neg cu, if_pos rfl]
            obtain ⟨q1, q2, q3⟩ := h11 u hu (out u mu cu)
            exact lieO_false.mpr (by omega)
          · rw [if_neg cu, if_neg cv]
            exact h12 u v hu hv (out u mu cu) (out v mv cv) hne
    have hlt2 : (L.eraseIdx r.toNat).length < k := by omega
    simp [z3, natD, e2, List.getElem?_cons_zero]
    refine up_w (by omega) ?_
    generalize up (at' + z) (thG ts t).2 = x at *
    simp [es, -fSetI_i]
    rw [List.map_set] at e3 fin
    simp [e3, e2, List.getElem?_cons_zero]
    exact ⟨_, hlt2, fin⟩
/-- what two rows of places are -/
structure RowsOk (ts : List (Int × Int)) (olds news : List Int) (b : Bool) : Prop where
  ok : okT ts
  len : ts.length ≤ 12
  lo : olds.length = ts.length
  ln : news.length = ts.length
  bo : ∀ t, 0 ≤ olds.getD t 0 ∧ olds.getD t 0 ≤ 1000000000000
  bn : ∀ t, 0 ≤ news.getD t 0 ∧ news.getD t 0 ≤ 1000000000000
  sep : sepG ts news
  bord : ∀ t, t < ts.length → 0 ≤ news.getD t 0 ∧ news.getD t 0 % (thG ts t).2 = 0
  slot : b = true → slotOk ts olds news
theorem bd_all {pl : List Int} {n : Nat} (hl : pl.length = n) {B : Int} (hB : 0 ≤ B) (h : ∀ t, t < n → 0 ≤ pl.getD t 0 ∧ pl.getD t 0 ≤ B) : ∀ t, 0 ≤ pl.getD t 0 ∧ pl.getD t 0 ≤ B := fun t => by
  rcases Nat.lt_or_ge t n with z | z
  · exact h t z
  · rw [List.getD_eq_getElem?_getD, List.getElem?_eq_none (by omega)]
    exact ⟨Int.le_refl _, hB⟩
def rowsD (ts : List (Int × Int)) (olds news : List Int) (b : Bool) : PD := .tuple [.tuple (ts.map thD), .list (olds.map .int), .list (news.map .int), .bool b]
def rowsQ (s : Int) (n : Nat) (o : O) (ρ : List O) : Prop := ∃ ts olds news b a c, o = .fz (rowsD ts olds news b) ∧ ρ = [.lst [.int a, .int s, .int c]] ∧ RowsOk ts olds news b ∧ 0 ≤ a ∧ 0 ≤ c ∧ c ≤ ((n + 7000 : Nat) : Int)
noncomputable def rowsA : MS := (sSeq (sSet 2 (mOp oIx (mLift (qFz (qLst (qCons (qC (.int 1)) (qCons (qC (.int 2)) (qCons (qC (.int 4)) (qCons (qC (.int 8)) (qCons (qC (.int 12)) qNil)))))))) (frzM (mCall f__law_draw [some 0, none] (mRef 0 (mCons (mLift (qC (.int 5))) mNil)))))) (sSeq (sSet 3 (mLift (qFz (qLc (qItA (qTup (qCons (qC (.int 1)) (qCons (qC (.int 2)) (qCons (qC (.int 3)) (qCons (qC (.int 4)) (qCons (qC (.int 6)) (qCons (qC (.int 8)) (qCons (qC (.int 12)) qNil))))))))) (fName 3) (qB (qOp oEq (qOp oMod (qVar 2) (qVar 3)) (qC (.int 0)))) (qVar 3) [3])))) (sSeq (sSet 4 (mCb oTuple (mCons (frzM (mLc (iLift (qRng1 (qCons (qVar 1) qNil))) (fName 5) bYes (mTup (mCons (mLift (qVar 2)) (mCons (mOp oIx (mLift (qVar 3)) (frzM (mCall f__law_draw [some 0, none] (mRef 0 (mCons (mLift (qCb oLen (qCons (qVar 3) qNil))) mNil))))) mNil))) [5])) mNil))) (sRet (mTup (mCons (mLift (qVar 4)) (mCons (frzM (mCall f__law_slots [some 0, none, none] (mRef 0 (mCons (mLift (qVar 1)) (mCons (mLift (qVar 2)) mNil))))) (mCons (frzM (mCall f__law_slots [some 0, none, none] (mRef 0 (mCons (mLift (qVar 1)) (mCons (mLift (qVar 2)) mNil))))) (mCons (mLift (qC (.bool true))) mNil)))))))))
noncomputable def rowsB : MS := (sSeq (sSet 4 (frzM (mCall f__law_things [some 0, none] (mRef 0 (mCons (mLift (qVar 1)) mNil))))) (sSeq (sPar 6 7 (mCons (frzM (mCall f__law_apart [some 0, none] (mRef 0 (mCons (mLift (qVar 4)) mNil)))) (mCons (mCall f__law_apart [some 0, none] (mRef 0 (mCons (mLift (qVar 4)) mNil))) mNil))) (sSeq (sIf (bAnd (bLift (qB (qOp oGt (qVar 1) (qC (.int 0))))) (bTest (mOp oEq (frzM (mCall f__law_draw [some 0, none] (mRef 0 (mCons (mLift (qC (.int 4))) mNil)))) (mLift (qC (.int 0)))))) (sSeq (sSet 7 (mNew (qCb oList (qCons (qVar 6) qNil)))) (sSeq (sSet 5 (frzM (mCall f__law_draw [some 0, none] (mRef 0 (mCons (mLift (qVar 1)) mNil))))) (sSetU 7 (qVar 5) (mLift (qCall (qOf f__law_up) (qCons (qCb oMax1 (qCons (qFz (qLc (qZipV (qCons (qVar 6) (qCons (qVar 4) qNil))) (fTup 2 (fCons (fName 8) (fCons (fName 9) fNil))) qYes (qOp oAdd (qVar 8) (qOp oIx (qVar 9) (qC (.int 0)))) [8, 9])) qNil)) (qCons (qOp oIx (qOp oIx (qVar 4) (qVar 5)) (qC (.int 1))) qNil))))))) sNext) (sRet (mTup (mCons (mLift (qVar 4)) (mCons (mLift (qVar 6)) (mCons (mGz 7 (mLift (qVar 7))) (mCons (mLift (qC (.bool false))) mNil)))))))))
def bordL (z : Int) : List Int := [1, 2, 3, 4, 6, 8, 12].filter fun b => decide (z % b = 0)
def bordP (z : Int) : PD → Bool
  | .int b => decide (z % b = 0)
  | _ => false
theorem pickQ {p : Int → Prop} {xs : List Int} {i : Int} (h : ∀ x ∈ xs, p x) (h0 : 0 ≤ i) (h1 : i < xs.length) : ∃ z, p z ∧ atI (xs.map PyData.int) i = some (.int z) := by
  have e : i.toNat < xs.length := by omega
  refine ⟨xs[i.toNat], h _ (List.getElem_mem e), ?_⟩
  rw [atI_nn h0, List.getElem?_map, List.getElem?_eq_getElem e]
  rfl
theorem bordL_ok {z b : Int} (h : b ∈ bordL z) : 1 ≤ b ∧ b ≤ 12 := by
  have := (List.mem_filter.mp h).1
  simp at this
  omega
theorem bordL_pos {z : Int} : 0 < (bordL z).length := List.length_pos_iff.mpr (List.ne_nil_of_mem (List.mem_filter.mpr ⟨by simp, by simp⟩ : (1 : Int) ∈ bordL z))
theorem bordL_len {z : Int} : (bordL z).length ≤ 7 := List.length_filter_le _ _
theorem bordP_f {z : Int} : ∀ l : List Int, (l.map PyData.int).filter (bordP z) = (l.filter fun b => decide (z % b = 0)).map .int := fun l => by
  rw [List.filter_map]
  rfl
def zThs (z : Int) (ts : List (Int × Int)) : Prop := ∀ q ∈ ts, q.1 = z ∧ 1 ≤ q.2 ∧ q.2 ≤ 12 ∧ z % q.2 = 0
def thsE (s m z : Int) (n len : Nat) (acc : List PD) (ρ : List O) : Prop := ∃ (ts : List (Int × Int)) (a c : Int) (x4 x5 x6 x7 x8 x9 : O), acc = ts.map thD ∧ ρ = [.lst [.int a, .int s, .int c], .fz (.int m), .fz (.int z), .fz (.list ((bordL z).map .int)), x4, x5, x6, x7, x8, x9] ∧ zThs z ts ∧ ts.length = len ∧ 0 ≤ a ∧ 0 ≤ c ∧ c ≤ ((n + len : Nat) : Int)
theorem ths_go {s m z : Int} {n : Nat} (hs : 0 ≤ s) (hs2 : s < 2 ^ 62) (hn : n < 2 ^ 39) : ∀ (xs : List PD) (ts : List (Int × Int)) (a c : Int) (x4 x5 x6 x7 x8 x9 : O), zThs z ts → ts.length + xs.length ≤ 12 → 0 ≤ a → 0 ≤ c → c ≤ ((n + ts.length : Nat) : Int) →
    lcW (fName 5) (mTup (mCons (mLift (qVar 2)) (mCons (mOp oIx (mLift (qVar 3)) (frzM (mCall f__law_draw [some 0, none] (mRef 0 (mCons (mLift (qCb oLen (qCons (qVar 3) qNil))) mNil))))) mNil))) [5] xs (ts.map thD) [.lst [.int a, .int s, .int c], .fz (.int m), .fz (.int z), .fz (.list ((bordL z).map .int)), x4, x5, x6, x7, x8, x9] (thsE s m z n (ts.length + xs.length)) := by
  intro xs
  induction xs with
  | nil =>
    intro ts a c x4 x5 x6 x7 x8 x9 h1 h2 h3 h4 h5
    exact ⟨ts, a, c, _, _, _, _, _, _, rfl, rfl, h1, rfl, h3, h4, h5⟩
  | cons x xs ih =>
    intro ts a c x4 x5 x6 x7 x8 x9 h1 h2 h3 h4 h5
    simp at h2
    refine ⟨_, rfl, ?_⟩
    have hp := bordL_pos (z := z)
    have h7 := bordL_len (z := z)
    simp [sizeLine]
    refine draw_spec (n := n + ts.length) h3 hs hs2 h4 h5 (by omega) (by omega) (by omega) fun r a1 c1 r0 r1 ha1 hc1 hc1' => ?_
    obtain ⟨b, ⟨b1, b2, b4⟩, b3⟩ := pickQ (xs := bordL z) (p := fun b => 1 ≤ b ∧ b ≤ 12 ∧ z % b = 0) (i := r) (fun x m => ⟨(bordL_ok m).1, (bordL_ok m).2, by simpa using (List.mem_filter.mp m).2⟩) r0 r1
    have hl : (ts.map thD).length < 16777216 := by simp; omega
    simp at hl
    simp [b3, hl]
    have e1 : ts.length + (xs.length + 1) = (ts ++ [(z, b)]).length + xs.length := by simp; omega
    have e2 : ts.map thD ++ [.tuple [.int z, .int b]] = (ts ++ [(z, b)]).map thD := by simp [thD]
    rw [e1, e2]
    refine ih (ts ++ [(z, b)]) a1 c1 _ _ _ _ _ _ (fun q m => ?_) (by simp; omega) ha1 hc1 (by simp; omega)
    rcases List.mem_append.mp m with m | m
    · exact h1 q m
    · rw [List.mem_singleton.mp m]
      exact ⟨rfl, b1, b2, b4⟩
theorem rowsA_spec {a s c m : Int} {n : Nat} {nx bk ct : List O → Prop} {rt : O → List O → Prop} {x2 x3 x4 x5 x6 x7 x8 x9 : O} (ha : 0 ≤ a) (hs : 0 ≤ s) (hs2 : s < 2 ^ 62) (hc : 0 ≤ c) (hc2 : c ≤ n) (hn : n < 2 ^ 38) (hm : 0 ≤ m) (hm2 : m ≤ 12)
    (h : ∀ o a c x1 x2 x3 x4 x5 x6 x7 x8 x9, (∃ ts olds news b, o = .fz (rowsD ts olds news b) ∧ RowsOk ts olds news b) → 0 ≤ a → 0 ≤ c → c ≤ ((n + 100 : Nat) : Int) → rt o [.lst [.int a, .int s, .int c], x1, x2, x3, x4, x5, x6, x7, x8, x9]) :
    wS (rowsA [.lst [.int a, .int s, .int c], .fz (.int m), x2, x3, x4, x5, x6, x7, x8, x9]) nx rt bk ct := by
  unfold rowsA
  rw [wS_seq]
  simp [sizeLine]
  refine draw_spec (n := n) ha hs hs2 hc hc2 (by omega) (by omega) (by omega) fun r a1 c1 r0 r1 ha1 hc1 hc1' => ?_
  obtain ⟨z, z1, z2, z3⟩ := pickI (xs := [1, 2, 4, 8, 12]) (lo := 1) (hi := 12) (i := r) (by
    intro x hx
    simp at hx
    rcases hx with rfl | rfl | rfl | rfl | rfl <;> omega) r0 (by simpa using r1)
  simp only [List.map_cons, List.map_nil] at z3
  simp [z3]
  rw [wS_seq]
  have l1 : lcGo (fName 3) (qB (qOp oEq (qOp oMod (qVar 2) (qVar 3)) (qC (.int 0)))) (qVar 3) [.lst [.int a1, .int s, .int c1], .fz (.int m), .fz (.int z), .dead, x4, x5, x6, x7, x8, x9] [.int 1, .int 2, .int 3, .int 4, .int 6, .int 8, .int 12] = some ((bordL z).map .int) := by
    have h := lcGo_all (f := fName 3) (c := qB (qOp oEq (qOp oMod (qVar 2) (qVar 3)) (qC (.int 0)))) (e := qVar 3) (ρ := [.lst [.int a1, .int s, .int c1], .fz (.int m), .fz (.int z), .dead, x4, x5, x6, x7, x8, x9]) (p := bordP z) (h := fun x => x) (xs := ([1, 2, 3, 4, 6, 8, 12] : List Int).map .int) fun x mx => by
      obtain ⟨u, mu, rfl⟩ := List.mem_map.mp mx
      have hu : 1 ≤ u := by simp at mu; omega
      refine ⟨_, rfl, ?_, fun _ => by simp⟩
      simp (disch := omega) [oMod_i, bordP]
    rw [bordP_f, List.map_id'] at h
    exact h
  simp [sizeLine, l1]
  rw [wS_seq]
  simp
  refine wM_lcI ?_
  have hb : big62 m = true := big62_s (by omega) (by omega)
  simp [hb]
  refine lcW_mono (ths_go (n := n + 1) hs hs2 (by omega) (rngD 0 m.toNat) [] a1 c1 x4 .dead x6 x7 x8 x9 (fun q m => by cases m) (by simp; omega) ha1 hc1 (by simpa using hc1')) fun acc ρ hq => ?_
  obtain ⟨ts, a2, c2, y4, y5, y6, y7, y8, y9, rfl, rfl, k1, k2, ha2, hc2, hc2'⟩ := hq
  have hlen : (ts.length : Int) = m := by simp at k2; omega
  simp
  refine slots_spec (n := n + 20) ha2 hs hs2 hc2 (by simp at hc2'; omega) (by omega) hm hm2 z1 z2 fun olds a3 c3 lo bo go ha3 hc3 hc3' => ?_
  simp
  refine slots_spec (n := n + 40) ha3 hs hs2 hc3 (by omega) (by omega) hm hm2 z1 z2 fun news a4 c4 ln bn gn ha4 hc4 hc4' => ?_
  simp [sizeLine]
  have okz : okT ts := fun q m => by
    have := k1 q m
    omega
  have bnd : ∀ pl : List Int, (∀ v ∈ pl, (0 ≤ v ∧ v ≤ 1000) ∧ ∃ w, v = z * w) → ∀ t, t < pl.length → (0 ≤ pl.getD t 0 ∧ pl.getD t 0 ≤ 1000) ∧ ∃ w, pl.getD t 0 = z * w := fun pl hp t ht => hp (pl.getD t 0) (by
    rw [List.getD_eq_getElem?_getD, List.getElem?_eq_getElem ht]
    exact List.getElem_mem ht)
  have bnd2 : ∀ pl : List Int, (∀ v ∈ pl, (0 ≤ v ∧ v ≤ 1000) ∧ ∃ w, v = z * w) → ∀ t, 0 ≤ pl.getD t 0 ∧ pl.getD t 0 ≤ 1000000000000 := fun pl hp => bd_all rfl (by omega) fun t ht => by
    have := (bnd pl hp t ht).1
    omega
  have h0 : ∀ t, t < ts.length → (thG ts t).1 = z ∧ 1 ≤ (thG ts t).2 ∧ (thG ts t).2 ≤ 12 ∧ z % (thG ts t).2 = 0 := fun t ht => k1 (thG ts t) (by
    unfold thG
    rw [List.getD_eq_getElem?_getD, List.getElem?_eq_getElem ht]
    exact List.getElem_mem ht)
  refine h _ a4 c4 _ _ _ _ _ _ _ _ _ ⟨ts, olds, news, true, rfl, okz, by omega, by omega, by omega, bnd2 olds bo, bnd2 news bn, fun t u ht hu hne => ?_, fun t ht => ?_, fun _ => ⟨z, z1, fun t ht => ⟨(h0 t ht).1, (bnd olds bo t (by omega)).2, (bnd news bn t (by omega)).2⟩⟩⟩ ha4 hc4 (by omega)
  · rw [(h0 t ht).1, (h0 u hu).1]
    have := gn t u (by omega) (by omega) hne
    exact lieO_false.mpr (by omega)
  · obtain ⟨g1, w, g2⟩ := bnd news bn t (by omega)
    refine ⟨g1.1, ?_⟩
    rw [g2, Int.mul_emod, (h0 t ht).2.2.2]
    simp
theorem rowsB_spec {a s c m : Int} {n : Nat} {nx bk ct : List O → Prop} {rt : O → List O → Prop} {x2 x3 x4 x5 x6 x7 x8 x9 : O} (ha : 0 ≤ a) (hs : 0 ≤ s) (hs2 : s < 2 ^ 62) (hc : 0 ≤ c) (hc2 : c ≤ n) (hn : n < 2 ^ 38) (hm : 0 ≤ m) (hm2 : m ≤ 12)
    (h : ∀ o a c x1 x2 x3 x4 x5 x6 x7 x8 x9, (∃ ts olds news b, o = .fz (rowsD ts olds news b) ∧ RowsOk ts olds news b) → 0 ≤ a → 0 ≤ c → c ≤ ((n + 6900 : Nat) : Int) → rt o [.lst [.int a, .int s, .int c], x1, x2, x3, x4, x5, x6, x7, x8, x9]) :
    wS (rowsB [.lst [.int a, .int s, .int c], .fz (.int m), x2, x3, x4, x5, x6, x7, x8, x9]) nx rt bk ct := by
  unfold rowsB
  rw [wS_seq]
  simp
  refine things_spec (n := n) ha hs hs2 hc hc2 (by omega) hm (by omega) fun ts a1 c1 ok hl ha1 hc1 hc1' => ?_
  have hl12 : ts.length ≤ 12 := by omega
  simp
  rw [wS_seq]
  simp
  refine apart_spec (n := n + 6001) ok hl12 ha1 hs hs2 hc1 hc1' (by omega) fun olds a2 c2 lo bo so ha2 hc2 hc2' => ?_
  simp
  refine apart_spec (n := n + 6049) ok hl12 ha2 hs hs2 hc2 (by omega) (by omega) fun news a3 c3 ln bn sn ha3 hc3 hc3' => ?_
  simp
  rw [wS_seq]
  have bo2 : ∀ t, 0 ≤ olds.getD t 0 ∧ olds.getD t 0 ≤ 1000000000000 := bd_all lo (by omega) fun t ht => by
    have := bo t ht
    have := okT_G ok ht
    omega
  have bn2 : ∀ t, 0 ≤ news.getD t 0 ∧ news.getD t 0 ≤ 1000000000000 := bd_all ln (by omega) fun t ht => by
    have := bn t ht
    have := okT_G ok ht
    omega
  have fin0 : ∀ a c x1 x2 x3 x4 x5 x6 x7 x8 x9, 0 ≤ a → 0 ≤ c → c ≤ ((n + 6900 : Nat) : Int) → rt (.fz (rowsD ts olds news false)) [.lst [.int a, .int s, .int c], x1, x2, x3, x4, x5, x6, x7, x8, x9] := fun a c x1 x2 x3 x4 x5 x6 x7 x8 x9 h1 h2 h3 => h _ a c _ _ _ _ _ _ _ _ _ ⟨ts, olds, news, false, rfl, ok, hl12, lo, ln, bo2, bn2, sn, (fun t ht => ⟨(bn t ht).1, (bn t ht).2.2⟩), (fun e => by cases e)⟩ h1 h2 h3
  by_cases hm0 : 0 < m
  · simp [hm0]
    refine draw_spec (n := n + 6097) ha3 hs hs2 hc3 (by omega) (by omega) (by omega) (by omega) fun r a4 c4 r0 r1 ha4 hc4 hc4' => ?_
    by_cases hr : r = 0
    · subst hr
      simp
      rw [wS_seq]
      simp
      rw [wS_seq]
      simp
      refine draw_spec (n := n + 6098) ha4 hs hs2 hc4 (by omega) (by omega) (by omega) (by omega) fun r2 a5 c5 r20 r21 ha5 hc5 hc5' => ?_
      obtain ⟨t, rfl⟩ := Int.eq_ofNat_of_zero_le r20
      have ht : t < ts.length := by omega
      have l1 : lcGo (fTup 2 (fCons (fName 8) (fCons (fName 9) fNil))) qYes (qOp oAdd (qVar 8) (qOp oIx (qVar 9) (qC (.int 0)))) [.lst [.int a5, .int s, .int c5], .fz (.int m), x2, x3, .fz (.tuple (ts.map thD)), .fz (.int (t : Int)), .fz (.list (olds.map .int)), .lst (olds.map .int), .dead, .dead] (zipD (olds.map .int) (ts.map thD)) = some ((List.zipWith (fun (t : Int × Int) p => p + t.1) ts olds).map .int) := by
        have h := lcGo_map (f := fTup 2 (fCons (fName 8) (fCons (fName 9) fNil))) (e := qOp oAdd (qVar 8) (qOp oIx (qVar 9) (qC (.int 0)))) (ρ := [.lst [.int a5, .int s, .int c5], .fz (.int m), x2, x3, .fz (.tuple (ts.map thD)), .fz (.int (t : Int)), .fz (.list (olds.map .int)), .lst (olds.map .int), .dead, .dead]) (h := fun z => match z with | .tuple [.int p, .tuple [.int s, _]] => .int (p + s) | d => d) (xs := zipD (olds.map .int) (ts.map thD)) fun z m => by
          obtain ⟨i, hi, rfl⟩ := List.mem_iff_getElem.mp m
          obtain ⟨h1, h2, h3⟩ := zip_at hi
          rw [h3, List.getElem_map, List.getElem_map]
          refine ⟨_, rfl, ?_⟩
          simp [pairD, thD]
        rw [h]
        unfold zipD
        rw [List.map_zipWith, List.map_zipWith, List.zipWith_map, List.zipWith_comm]
        rfl
      have hz : (zipD (olds.map PyData.int) (ts.map thD)).length ≤ 16777216 := by simp [zipD]; omega
      have hel : 0 < (List.zipWith (fun (t : Int × Int) p => p + t.1) ts olds).length := by simp; omega
      have hge : ∀ u, u < ts.length → olds.getD u 0 + (thG ts u).1 ≤ maxI (List.zipWith (fun (t : Int × Int) p => p + t.1) ts olds) := fun u hu => by
        have := end_le hu lo
        unfold hgtG at this
        rwa [topD_max (List.length_pos_iff.mp hel)] at this
      have hle : maxI (List.zipWith (fun (t : Int × Int) p => p + t.1) ts olds) ≤ 14000000000 := by
        have := hgt_le (ts := ts) (pl := olds) (B := 14000000000) (by omega) lo fun u hu => (bo u hu).2.1
        unfold hgtG at this
        rwa [topD_max (List.length_pos_iff.mp hel)] at this
      generalize hzz : zipD (olds.map PyData.int) (ts.map thD) = zz at l1 hz
      generalize List.zipWith (fun (t : Int × Int) p => p + t.1) ts olds = es at l1 hel hge hle
      have e2 := at_thG ht
      have hok := okT_G ok ht
      have qu := q_law_up (n := maxI es) (b := (thG ts t).2) (by omega)
      obtain ⟨u1, u2⟩ := up_is (e := maxI es) (b := (thG ts t).2) (by omega)
      have hgt := bo t ht
      have hget := hge t ht
      have es2 := fSetI_n (v := up (maxI es) (thG ts t).2) (lo ▸ ht : t < olds.length)
      have hgd : ∀ u, (olds.set t (up (maxI es) (thG ts t).2)).getD u 0 = if t = u then up (maxI es) (thG ts t).2 else olds.getD u 0 := fun u => getD_set (lo ▸ ht : t < olds.length)
      have rok : RowsOk ts olds (olds.set t (up (maxI es) (thG ts t).2)) false := by
        refine ⟨ok, hl12, lo, by simp [lo], bo2, fun u => ?_, fun u v hu hv hne => ?_, fun u hu => ?_, fun e => by cases e⟩
        · rw [hgd]
          split
          · omega
          · exact bo2 u
        · rw [hgd, hgd]
          by_cases cu : t = u
          · subst cu
            have cv : ¬ t = v := fun e => hne e.symm
            rw [if_pos rfl, if_neg cv]
            have := hge v hv
            exact lieO_false.mpr (by omega)
          · by_cases cv : t = v
            · subst cv
              rw [if_neg cu, if_pos rfl]
              have := hge u hu
              exact lieO_false.mpr (by omega)
            · rw [if_neg cu, if_neg cv]
              exact so u v hu hv hne
        · rw [hgd]
          by_cases cu : t = u
          · subst cu; rw [if_pos rfl]; exact ⟨by omega, up_mod⟩
          · rw [if_neg cu]; exact ⟨(bo u hu).1, (bo u hu).2.2⟩
      have fin := fun x1 x2 x3 x4 x5 x6 x7 x8 x9 => h _ a5 c5 x1 x2 x3 x4 x5 x6 x7 x8 x9 ⟨ts, olds, _, false, rfl, rok⟩ ha5 hc5 (by omega)
      unfold rowsD at fin
      generalize up (maxI es) (thG ts t).2 = x at *
      rw [List.map_set] at fin es2
      simp [hzz, sizeLine, hz, l1, oMax1_l hel, e2, List.getElem?_cons_zero, qCall, qu, es2, -fSetI_i]
      exact fin _ _ _ _ _ _ _ _ _
    · simp [hr]
      exact ⟨by simp [sizeLine], fin0 _ _ _ _ _ _ _ _ _ _ _ ha4 hc4 (by omega)⟩
  · simp [hm0]
    exact ⟨by simp [sizeLine], fin0 _ _ _ _ _ _ _ _ _ _ _ ha3 hc3 (by omega)⟩
theorem rows_spec {a s c : Int} {n : Nat} (ha : 0 ≤ a) (hs : 0 ≤ s) (hs2 : s < 2 ^ 62) (hc : 0 ≤ c) (hc2 : c ≤ n) (hn : n < 2 ^ 37) : wF (f__law_two_rows [.lst [.int a, .int s, .int c]]) (rowsQ s n) := by
  unfold f__law_two_rows m__law_two_rows
  rw [wF_defN, wS_seq]
  simp [sizeLine]
  refine draw_spec (n := n) ha hs hs2 hc hc2 (by omega) (by omega) (by omega) fun r1 a1 c1 r1a r1b ha1 hc1 hc1' => ?_
  simp [sizeLine]
  refine draw_spec (n := n + 1) ha1 hs hs2 hc1 (by omega) (by omega) (by omega) (by omega) fun r2 a2 c2 r2a r2b ha2 hc2 hc2' => ?_
  simp [sizeLine]
  refine draw_spec (n := n + 2) ha2 hs hs2 hc2 (by omega) (by omega) (by omega) (by omega) fun r3 a3 c3 r3a r3b ha3 hc3 hc3' => ?_
  simp [sizeLine]
  refine draw_spec (n := n + 3) ha3 hs hs2 hc3 (by omega) (by omega) (by omega) (by omega) fun r4 a4 c4 r4a r4b ha4 hc4 hc4' => ?_
  obtain ⟨m, m1, m2, m3⟩ := pickI (xs := [r1, 2 + r2, 7 + r3]) (lo := 0) (hi := 12) (i := r4) (by
    intro x hx
    simp at hx
    rcases hx with rfl | rfl | rfl <;> omega) r4a (by simpa using r4b)
  simp only [List.map_cons, List.map_nil] at m3
  simp [m3]
  rw [wS_seq]
  simp
  refine draw_spec (n := n + 4) ha4 hs hs2 hc4 (by omega) (by omega) (by omega) (by omega) fun r5 a5 c5 r5a r5b ha5 hc5 hc5' => ?_
  by_cases h5 : r5 = 0
  · subst h5
    simp
    refine rowsA_spec (n := n + 5) ha5 hs hs2 hc5 (by omega) (by omega) m1 m2 fun o a c x1 x2 x3 x4 x5 x6 x7 x8 x9 hq ha hc hc' => ?_
    obtain ⟨ts, olds, news, b, rfl, hR⟩ := hq
    exact ⟨ts, olds, news, b, a, c, rfl, rfl, hR, ha, hc, by omega⟩
  · simp [h5]
    refine rowsB_spec (n := n + 5) ha5 hs hs2 hc5 (by omega) (by omega) m1 m2 fun o a c x1 x2 x3 x4 x5 x6 x7 x8 x9 hq ha hc hc' => ?_
    obtain ⟨ts, olds, news, b, rfl, hR⟩ := hq
    exact ⟨ts, olds, news, b, a, c, rfl, rfl, hR, ha, hc, by omega⟩
end FM
namespace FM
open PySem PySem.Spec L2 PyProof.Rows
theorem oIn_nats {u : Nat} {as : List Nat} : oIn (.fz (.int (u : Int))) (.fz (.list (as.map natD))) = some (.fz (.bool (decide (u ∈ as)))) := by
  have h := oNin_nats (u := u) (as := as)
  unfold oNin at h
  unfold oIn
  cases hb : bIn (.fz (.int (u : Int))) (.fz (.list (as.map natD))) with
  | none => rw [hb] at h; cases h
  | some b =>
    rw [hb] at h
    simp at h
    simp [h]
theorem backA_non : ∀ {as : List (Option Nat)} {xs ρ : List O}, (∀ a ∈ as, a = none) → backA as xs ρ = ρ
  | [], _, _, _ => backA_nil
  | none :: as, [], _, h => rfl
  | none :: as, x :: xs, ρ, h => by
    rw [backA_n]
    exact backA_non fun a m => h a (List.mem_cons_of_mem _ m)
  | some n :: as, _, _, h => by cases h _ List.mem_cons_self
/-- what was counted at the end -/
def oftL (n : Nat) (fs : List (Nat × Int)) : List Int := (List.range n).map fun t => (cntG fs t : Int)
def elsL (n : Nat) (olds nw : List Int) : List Nat := (List.range n).filter (waitG olds nw)
theorem oft_two {n : Nat} {fs : List (Nat × Int)} : (oftL n fs).count 2 = ((List.range n).filter fun t => decide (cntG fs t = 2)).length := by
  unfold oftL
  rw [List.count, List.countP_map, List.countP_eq_length_filter]
  congr 1
  apply List.filter_congr
  intro t _
  simp
  rw [Bool.eq_iff_iff]
  simp
  omega
theorem end_cnt {ts : List (Int × Int)} {olds nw : List Int} {fs : List (Nat × Int)} {as : List Nat} (M : MovOk ts olds nw nw fs as) {t : Nat} (ht : t < ts.length) : cntG fs t ≤ 2 ∧ (cntG fs t ≠ 0 → olds.getD t 0 ≠ nw.getD t 0) := by
  have h := M.cnt t ht
  unfold valG at h
  by_cases c : olds.getD t 0 = nw.getD t 0
  · rw [if_pos c] at h
    exact ⟨by omega, fun z => by omega⟩
  · rw [if_neg c] at h
    refine ⟨?_, fun _ => c⟩
    simp at h
    omega
theorem end_half {ts : List (Int × Int)} {olds nw : List Int} {fs : List (Nat × Int)} {as : List Nat} (M : MovOk ts olds nw nw fs as) (hsl : slotOk ts olds nw) : 2 * (oftL ts.length fs).count 2 ≤ (elsL ts.length olds nw).length := by
  have hA : as.length ≤ homeN ts.length olds nw nw as := by
    rcases (M.side hsl).2 with h | ⟨_, a, _, _, _, hwa, _⟩
    · exact h
    · exact (hwa rfl).elim
  have h1 : (oftL ts.length fs).count 2 ≤ as.length := by
    rw [oft_two]
    refine pigeon (R := fun t u => t = u) (List.Nodup.sublist List.filter_sublist List.nodup_range) (fun t mt => ?_) (fun t _ t' _ u e e' => e.trans e'.symm)
    obtain ⟨m1, m2⟩ := List.mem_filter.mp mt
    have ht := List.mem_range.mp m1
    refine ⟨t, ?_, rfl⟩
    refine Classical.byContradiction fun hn => ?_
    have := M.once t ht hn
    rw [if_pos rfl] at this
    have : cntG fs t = 2 := by simpa using m2
    omega
  have h2 : as.length ≤ ((List.range ts.length).filter fun t => waitG olds nw t && decide (t ∈ as)).length := by
    refine pigeon (R := fun t u => t = u) M.nd (fun t mt => ⟨t, ?_, rfl⟩) (fun t _ t' _ u e e' => e.trans e'.symm)
    obtain ⟨ht, he⟩ := M.asn t mt
    refine List.mem_filter.mpr ⟨List.mem_range.mpr ht, ?_⟩
    unfold waitG
    rw [decide_eq_false he, decide_eq_true mt]
    rfl
  have h3 : (elsL ts.length olds nw).length = ((List.range ts.length).filter fun t => waitG olds nw t && decide (t ∈ as)).length + homeN ts.length olds nw nw as := by
    unfold elsL homeN
    generalize List.range ts.length = l
    induction l with
    | nil => rfl
    | cons t l ih =>
      rw [List.filter_cons, List.filter_cons, List.filter_cons]
      have e1 : homeL olds nw nw as t = (waitG olds nw t && !decide (t ∈ as)) := by
        unfold homeL waitG
        rw [decide_eq_true (rfl : nw.getD t 0 = nw.getD t 0), Bool.and_true]
        congr 1
        rw [Bool.eq_iff_iff]
        simp
      rw [e1]
      cases waitG olds nw t <;> cases decide (t ∈ as) <;> simp <;> omega
  omega
theorem mov_fine {B : Int} {n : Nat} {fs : List (Nat × Int)} (h : okM n B fs) (hn : n ≤ 12) (hB : B ≤ 100000000000000) (hl : fs.length ≤ 100) : plainD 44 (.list (fs.map mvD)) := by
  refine ⟨by simp [sizeLine]; omega, fun x m => ?_⟩
  obtain ⟨q, mq, rfl⟩ := List.mem_map.mp m
  refine ⟨by simp [sizeLine], fun y my => ?_⟩
  simp at my
  rcases my with rfl | rfl <;> trivial
end FM
namespace FM
open PySem PySem.Spec L2 PyProof.Rows
def isT (t : Int) : PD → Bool
  | .tuple [.int a, _] => decide (a = t)
  | _ => false
theorem isT_len {fs : List (Nat × Int)} {t : Nat} : ((fs.map mvD).filter (isT (t : Int))).length = cntG fs t := by
  unfold cntG
  rw [List.filter_map, List.length_map]
  congr 1
  apply List.filter_congr
  intro q _
  simp [isT, mvD]
  omega
def oftF (fs : List (Nat × Int)) : PD → PD
  | .int t => .int (cntG fs t.toNat : Int)
  | d => d
section
variable {nx bk ct : List O → Prop} {rt : O → List O → Prop} {x0 x1 x2 x9 x10 x11 x12 x13 x14 : O}
theorem oft_lc {ts : List (Int × Int)} {x4 x5 x6 x7 : O} {fs : List (Nat × Int)} {n : Nat} (hl : fs.length ≤ 100) :
    lcGo (fName 12) qYes (qCb oLen (qCons (qFz (qLc (qItA (qVar 8)) (fName 13) (qB (qOp oEq (qOp oIx (qVar 13) (qC (.int 0))) (qVar 12))) (qVar 13) [13])) qNil)) [x0, x1, x2, .fz (.tuple (ts.map thD)), x4, x5, x6, x7, .lst (fs.map mvD), x9, x10, x11, .dead, x13, x14] (rngD 0 n) = some ((oftL n fs).map .int) := by
  have h := lcGo_map (f := fName 12) (e := qCb oLen (qCons (qFz (qLc (qItA (qVar 8)) (fName 13) (qB (qOp oEq (qOp oIx (qVar 13) (qC (.int 0))) (qVar 12))) (qVar 13) [13])) qNil)) (ρ := [x0, x1, x2, .fz (.tuple (ts.map thD)), x4, x5, x6, x7, .lst (fs.map mvD), x9, x10, x11, .dead, x13, x14]) (h := oftF fs) (xs := rngD 0 n) fun x mx => by
    rw [rngD_nat] at mx
    obtain ⟨t, mt, rfl⟩ := List.mem_map.mp mx
    refine ⟨_, rfl, ?_⟩
    have l2 : lcGo (fName 13) (qB (qOp oEq (qOp oIx (qVar 13) (qC (.int 0))) (qVar 12))) (qVar 13) [x0, x1, x2, .fz (.tuple (ts.map thD)), x4, x5, x6, x7, .lst (fs.map mvD), x9, x10, x11, .fz (.int (t : Int)), .dead, x14] (fs.map mvD) = some ((fs.map mvD).filter (isT (t : Int))) := by
      have h2 := lcGo_all (f := fName 13) (c := qB (qOp oEq (qOp oIx (qVar 13) (qC (.int 0))) (qVar 12))) (e := qVar 13) (ρ := [x0, x1, x2, .fz (.tuple (ts.map thD)), x4, x5, x6, x7, .lst (fs.map mvD), x9, x10, x11, .fz (.int (t : Int)), .dead, x14]) (p := isT (t : Int)) (h := fun x => x) (xs := fs.map mvD) fun x mx => by
        obtain ⟨q, mq, rfl⟩ := List.mem_map.mp mx
        refine ⟨_, rfl, ?_, fun _ => by simp⟩
        simp [mvD, isT]
      rw [h2, List.map_id']
    have hz : fs.length ≤ 16777216 := by omega
    have hlen := isT_len (fs := fs) (t := t)
    generalize (fs.map mvD).filter (isT (t : Int)) = F at l2 hlen
    simp [natD, sizeLine, hz, l2, oftF, hlen]
  rw [h, rngD_nat, List.map_map]
  unfold oftL
  rw [List.map_map]
  rfl
theorem els_lc {ts : List (Int × Int)} {olds nw : List Int} {x6 x7 x8 : O} (hl : olds.length = ts.length) (hw : nw.length = ts.length) :
    lcGo (fName 12) (qB (qOp oNe (qOp oIx (qVar 4) (qVar 12)) (qOp oIx (qVar 5) (qVar 12)))) (qVar 12) [x0, x1, x2, .fz (.tuple (ts.map thD)), .fz (.list (olds.map .int)), .fz (.list (nw.map .int)), x6, x7, x8, x9, x10, x11, .dead, x13, x14] (rngD 0 ts.length) = some ((elsL ts.length olds nw).map natD) := by
  unfold elsL
  rw [rngD_nat, ← natD_filter (natP_natD (p := waitG olds nw))]
  have h := lcGo_all (f := fName 12) (c := qB (qOp oNe (qOp oIx (qVar 4) (qVar 12)) (qOp oIx (qVar 5) (qVar 12)))) (e := qVar 12) (ρ := [x0, x1, x2, .fz (.tuple (ts.map thD)), .fz (.list (olds.map .int)), .fz (.list (nw.map .int)), x6, x7, x8, x9, x10, x11, .dead, x13, x14]) (p := natP (waitG olds nw)) (h := fun x => x) (xs := (List.range ts.length).map natD) fun x mx => by
    obtain ⟨u, mu, rfl⟩ := List.mem_map.mp mx
    have hu := List.mem_range.mp mu
    refine ⟨_, rfl, ?_, fun _ => by simp⟩
    have e1 := at_pl (pl := olds) (t := u) (by omega)
    have e2 := at_pl (pl := nw) (t := u) (by omega)
    have e3 : natP (waitG olds nw) (natD u) = waitG olds nw u := natP_natD u
    rw [e3]
    unfold waitG
    generalize olds.getD u 0 = a at e1
    generalize nw.getD u 0 = b at e2
    simp [natD, e1, e2]
  rw [h, List.map_id']
theorem all_lc {fs : List (Nat × Int)} {E : List Nat} {x3 x4 x5 x6 x7 : O} (h : ∀ q ∈ fs, q.1 ∈ E) :
    lcGo (fTup 2 (fCons (fName 12) (fCons (fName 14) fNil))) qYes (qOp oIn (qVar 12) (qVar 10)) [x0, x1, x2, x3, x4, x5, x6, x7, .lst (fs.map mvD), x9, .fz (.list (E.map natD)), x11, .dead, x13, .dead] (fs.map mvD) = some (fs.map fun _ => .bool true) := by
  have h := lcGo_map (f := fTup 2 (fCons (fName 12) (fCons (fName 14) fNil))) (e := qOp oIn (qVar 12) (qVar 10)) (ρ := [x0, x1, x2, x3, x4, x5, x6, x7, .lst (fs.map mvD), x9, .fz (.list (E.map natD)), x11, .dead, x13, .dead]) (h := fun _ => .bool true) (xs := fs.map mvD) fun x mx => by
    obtain ⟨q, mq, rfl⟩ := List.mem_map.mp mx
    refine ⟨_, rfl, ?_⟩
    have e := oIn_nats (u := q.1) (as := E)
    rw [decide_eq_true (h q mq)] at e
    generalize E.map natD = ED at e
    simp [mvD, e]
  rw [h, List.map_map]
  rfl
theorem tail_spec {ts : List (Int × Int)} {olds nw : List Int} {b : Bool} {fs : List (Nat × Int)} {as : List Nat} {sh : Str} (hR : RowsOk ts olds nw b) (M : MovOk ts olds nw nw fs as) (hf : okM ts.length (bdG 0) fs) (hfl : fs.length ≤ 24)
    (hq : qOf f_moves [.tuple (ts.map thD), .list (olds.map .int), .list (nw.map .int)] = some (.list (fs.map mvD)))
    (hsh : oStr [.fz (.list [.tuple (ts.map thD), .list (olds.map .int), .list (nw.map .int)])] = some (.fz (.str sh)))
    (h : ∀ x8 x9 x10 x11 x12 x13 x14, nx [x0, x1, x2, .fz (.tuple (ts.map thD)), .fz (.list (olds.map .int)), .fz (.list (nw.map .int)), .fz (.bool b), .fz (.str sh), x8, x9, x10, x11, x12, x13, x14]) :
    wS (sSeq m_law_5 (sSeq m_law_6 (sSeq m_law_7 (sSeq m_law_8 (sSeq m_law_9 (sSeq m_law_10 (sSeq (sDrop (mMt0 8 fRev)) (sSeq m_law_11 m_law_12))))))) [x0, x1, x2, .fz (.tuple (ts.map thD)), .fz (.list (olds.map .int)), .fz (.list (nw.map .int)), .fz (.bool b), .fz (.str sh), .lst (fs.map mvD), x9, x10, x11, x12, x13, x14]) nx rt bk ct := by
  have hlen := hR.len
  have q2 := q_played (d := .list (fs.map mvD)) hR.ok (by omega) hR.lo
  have q1 := q_shows (news := nw) (d := .list (fs.map mvD)) hR.ok hR.lo
  have e1 : playD ts olds (.list (fs.map mvD)) = .list (nw.map .int) := by simp [playD, M.play]
  have e2 : showsB ts olds nw (.list (fs.map mvD)) = true := by simp [showsB, M.play]
  rw [e1] at q2
  rw [e2] at q1
  have ene := oNe_ints (x := .fz (.list (nw.map .int))) (y := .fz (.list (nw.map .int))) (l := nw) (r := nw) rfl rfl
  have hb : big62 (ts.length : Int) = true := big62_s (by omega) (by omega)
  have hz : ts.length ≤ 16777216 := by omega
  have hzf : fs.length ≤ 16777216 := by omega
  rw [wS_seq]
  have imb : ∀ b : Bool, imm (.bool b) = true := fun b => rfl
  simp [m_law_5, qCall, flatOs, flatO, toPDs, q1, q2, ene, imb]
  rw [wS_seq]
  have l6 := fun (x9 : O) => oft_lc (x0 := x0) (x1 := x1) (x2 := x2) (x9 := x9) (x10 := x10) (x11 := x11) (x13 := x13) (x14 := x14) (ts := ts) (x4 := .fz (.list (olds.map .int))) (x5 := .fz (.list (nw.map .int))) (x6 := .fz (.bool b)) (x7 := .fz (.str sh)) (fs := fs) (n := ts.length) (by omega)
  simp [m_law_6, hb, hz, sizeLine, l6]
  have hmx : maxI (oftL ts.length fs ++ [0]) ≤ 2 := by
    have m := (maxI_is (ns := oftL ts.length fs ++ [0]) (by simp)).1
    rcases List.mem_append.mp m with m | m
    · unfold oftL at m
      obtain ⟨t, mt, e⟩ := List.mem_map.mp m
      have := (end_cnt M (List.mem_range.mp mt)).1
      unfold oftL
      omega
    · rw [List.mem_singleton.mp m]; decide
  have h8 : oMax1 [.fz (.list ((oftL ts.length fs).map .int ++ [.int 0]))] = some (.fz (.int (maxI (oftL ts.length fs ++ [0])))) := by
    have := oMax1_l (l := oftL ts.length fs ++ [0]) (by simp)
    simpa using this
  have hC : oCnt (.fz (.list ((oftL ts.length fs).map .int))) (.fz (.int 2)) = some (.fz (.int (((oftL ts.length fs).count 2 : Nat) : Int))) := oCnt_l
  have hhalf : b = true → 2 * (oftL ts.length fs).count 2 ≤ (elsL ts.length olds nw).length := fun e => end_half M (hR.slot e)
  have hol : ((oftL ts.length fs).map PyData.int).length + 1 ≤ 16777216 := by simp [oftL]; omega
  generalize maxI (oftL ts.length fs ++ [0]) = mx at hmx h8
  generalize (oftL ts.length fs).count 2 = c2 at hC hhalf
  generalize (oftL ts.length fs).map PyData.int = OF at h8 hC hol
  rw [wS_seq]
  have l7 := fun (x9 : O) => els_lc (x0 := x0) (x1 := x1) (x2 := x2) (x9 := x9) (x10 := x10) (x11 := x11) (x13 := x13) (x14 := x14) (ts := ts) (olds := olds) (nw := nw) (x6 := .fz (.bool b)) (x7 := .fz (.str sh)) (x8 := .lst (fs.map mvD)) hR.lo hR.ln
  simp [m_law_7, hb, hz, sizeLine, l7]
  rw [wS_seq]
  have hin : ∀ q ∈ fs, q.1 ∈ elsL ts.length olds nw := fun q mq => by
    have ht := (hf q mq).1
    have hc : cntG fs q.1 ≠ 0 := by
      unfold cntG
      have : q ∈ fs.filter fun z => decide (z.1 = q.1) := List.mem_filter.mpr ⟨mq, by simp⟩
      have := List.length_pos_of_mem this
      omega
    have := (end_cnt M ht).2 hc
    unfold elsL waitG
    exact List.mem_filter.mpr ⟨List.mem_range.mpr ht, by rw [decide_eq_false this]; rfl⟩
  have l8 := all_lc (x0 := x0) (x1 := x1) (x2 := x2) (x9 := .fz (.list OF)) (x11 := x11) (x13 := x13) (x3 := .fz (.tuple (ts.map thD))) (x4 := .fz (.list (olds.map .int))) (x5 := .fz (.list (nw.map .int))) (x6 := .fz (.bool b)) (x7 := .fz (.str sh)) hin
  have hall : oAll [.fz (.list (fs.map fun _ => .bool true))] = some (.fz (.bool (fs.all fun _ => true))) := oAll_map
  have hall2 : (fs.all fun _ => true) = true := by simp
  rw [hall2] at hall
  have hEEL : ((elsL ts.length olds nw).map natD).length = (elsL ts.length olds nw).length := List.length_map _
  generalize (elsL ts.length olds nw).length = EL at hhalf hEEL
  generalize (elsL ts.length olds nw).map natD = EE at l8 hEEL
  generalize (fs.map fun _ => PyData.bool true) = bl at l8 hall
  have hmx2 : ¬ (2 < mx) := by omega
  simp [m_law_8, sizeLine, hol, h8, hmx2, hzf, l8, hall, -oAll_l]
  rw [wS_seq]
  have h9 : wS (m_law_9 [x0, x1, x2, .fz (.tuple (ts.map thD)), .fz (.list (olds.map .int)), .fz (.list (nw.map .int)), .fz (.bool b), .fz (.str sh), .lst (fs.map mvD), .fz (.list OF), .fz (.list EE), x11, x12, x13, x14]) (fun ρ => ρ = [x0, x1, x2, .fz (.tuple (ts.map thD)), .fz (.list (olds.map .int)), .fz (.list (nw.map .int)), .fz (.bool b), .fz (.str sh), .lst (fs.map mvD), .fz (.list OF), .fz (.list EE), x11, x12, x13, x14]) (fun _ _ => False) (fun _ => False) (fun _ => False) := by
    cases b with
    | false => simp [m_law_9]
    | true =>
      have hh := hhalf rfl
      have hd : ¬ ((EL : Int) / 2 < (c2 : Int)) := by omega
      simp (disch := omega) [m_law_9, hC, hEEL, oDiv_i, hd]
  refine wS_mono h9 (fun ρ e => ?_) (fun _ _ z => z.elim) (fun _ z => z.elim) (fun _ z => z.elim)
  subst e
  rw [wS_seq]
  simp [m_law_10]
  rw [wS_seq]
  simp [fRev]
  refine ⟨_, _, ⟨rfl, rfl⟩, ?_⟩
  rw [wS_seq]
  have ap1 : fAppend (fs.map mvD).reverse [.tuple [.int 0, .int 0]] = some (.none, (fs.map mvD).reverse ++ [.tuple [.int 0, .int 0]]) := fAppend_eq (by simp [sizeLine]; omega)
  have hsame := q_same (mov_fine hf hlen (by unfold bdG; decide) (by omega))
  simp [m_law_11, sizeLine]
  refine ⟨_, _, ap1, ?_⟩
  simp [m_law_12, qCall, hq, hsame, hsh, sizeLine]
  exact h _ _ _ _ _ _ _
end
theorem row_fine {pl : List Int} (h : ∀ t, 0 ≤ pl.getD t 0 ∧ pl.getD t 0 ≤ 1000000000000) : Fine 1 (pl.length * 23 + 2) (.list (pl.map .int)) := ints_fine fun x m => by
  obtain ⟨i, hi, rfl⟩ := List.mem_iff_getElem.mp m
  have := h i
  simp [hi] at this
  omega
theorem str_three {ts : List (Int × Int)} {olds news : List Int} {b : Bool} (hR : RowsOk ts olds news b) :
    ∃ x : Str, oStr [.fz (.list [.tuple (ts.map thD), .list (olds.map .int), .list (news.map .int)])] = some (.fz (.str x)) := by
  have f1 := (ths_fine hR.ok).mono (h' := 2) (n' := 1000) (by omega) (by have := hR.len; omega)
  have f2 := (row_fine hR.bo).mono (h' := 2) (n' := 1000) (by omega) (by have := hR.lo; have := hR.len; omega)
  have f3 := (row_fine hR.bn).mono (h' := 2) (n' := 1000) (by omega) (by have := hR.ln; have := hR.len; omega)
  exact ⟨_, oStr_seq (FineA.cons f1 (FineA.cons f2 (FineA.cons f3 FineA.nil))).list (by omega) (by simp [sizeLine]) rfl⟩
theorem moves_run {ts : List (Int × Int)} {olds nw : List Int} {b : Bool} (hR : RowsOk ts olds nw b) : ∃ fs as outs, f_moves [.fz (.tuple (ts.map thD)), .fz (.list (olds.map .int)), .fz (.list (nw.map .int))] = .ret (.lst (fs.map mvD)) outs ∧ okM ts.length (bdG 0) fs ∧ fs.length ≤ 24 ∧ MovOk ts olds nw nw fs as ∧ qOf f_moves [.tuple (ts.map thD), .list (olds.map .int), .list (nw.map .int)] = some (.list (fs.map mvD)) := by
  obtain ⟨o, outs, e, fs, as, rfl, h1, h2, h3⟩ := wF_ex (moves_w hR.ok hR.len hR.lo hR.ln hR.sep hR.bord hR.bo hR.bn)
  refine ⟨fs, as, outs, e, h1, h2, h3, ?_⟩
  unfold qOf
  simp only [List.map_cons, List.map_nil]
  rw [e]
  rfl
theorem plain_law (ns : List Int) (h : ns.length ≤ 63) : ∃ outs, f_law [.fz (.list (ns.map .int))] = .ret (.fz (.bool true)) outs := by
  apply law_of
  unfold f_law m_law
  rw [wF_defN, wS_seq]
  have hb : big62 (if (if (ns.length : Int) < 4 then (ns.length : Int) else 4) > 1 then (if (ns.length : Int) < 4 then (ns.length : Int) else 4) else 1) = true := big62_s (by split <;> omega) (by split <;> split <;> omega)
  simp at hb
  simp [m_law_13, hb]
  refine wS_forI (fun i ρ => ∃ x1 x2 x3 x4 x5 x6 x7 x8 x9 x10 x11 x12 x13 x14, ρ = [.fz (.list (ns.map .int)), x1, x2, x3, x4, x5, x6, x7, x8, x9, x10, x11, x12, x13, x14]) ⟨_, _, _, _, _, _, _, _, _, _, _, _, _, _, rfl⟩ ?_ ?_
  · rintro i x ρ ex ⟨x1, x2, x3, x4, x5, x6, x7, x8, x9, x10, x11, x12, x13, x14, rfl⟩
    obtain ⟨rfl, hi⟩ := rngD_at ex
    have hi7 : (i : Int) ≤ 7 := by
      split at hi <;> split at hi <;> omega
    refine ⟨_, rfl, ?_⟩
    rw [wS_seq]
    simp [m_law_1]
    refine tape_spec (by omega) (by omega) fun a s ha hs hs2 => ?_
    rw [wS_seq]
    simp [m_law_2]
    have hq := rows_spec (c := 0) (n := 0) ha hs hs2 (by decide) (by decide) (by decide)
    refine wF_mono hq fun o ρ z => ?_
    obtain ⟨ts, olds, news, b, a1, c1, rfl, rfl, hR, ha1, hc1, hc1'⟩ := z
    obtain ⟨sh, hsh⟩ := str_three hR
    obtain ⟨fs, as, outs, em, hf, hfl, M, qm⟩ := moves_run hR
    simp [rowsD]
    rw [wS_seq]
    simp [m_law_3, sizeLine, hsh]
    rw [wS_seq]
    simp [m_law_4, em]
    have hback : ∀ ρ : List O, backA [none, none, none] outs ρ = ρ := fun ρ => backA_non fun a m => by simpa using m
    show wF (.ret (.lst (fs.map mvD)) outs) _
    show wS _ _ _ _ _
    rw [hback]
    exact tail_spec hR M hf hfl qm hsh fun x8 x9 x10 x11 x12 x13 x14 => ⟨_, _, _, _, _, _, _, _, _, _, _, _, _, _, rfl⟩
  · rintro ρ ⟨x1, x2, x3, x4, x5, x6, x7, x8, x9, x10, x11, x12, x13, x14, rfl⟩
    obtain ⟨fs, as, outs, em, hf, hfl, M, qm⟩ := moves_run (ts := []) (olds := []) (nw := []) (b := false) ⟨(fun p m => nomatch m), by decide, rfl, rfl, (fun t => by simp), (fun t => by simp), (fun t u ht => by simp at ht), (fun t ht => by simp at ht), (fun e => nomatch e)⟩
    have hfs : fs = [] := by
      cases fs with
      | nil => rfl
      | cons q fs => have := (hf q List.mem_cons_self).1; simp at this
    subst hfs
    simp at qm
    have e0 := oEq_nil (ds := []) shaped_nil
    simp [m_law_14, qCall, qm, sizeLine, e0]
end FM
open PySem PySem.W PySem.Calls PyProof.Rows
theorem PySem.Challenge.cw_frameshare_k46_moves_that_lose_nothing_holds : PySem.Challenge.rw_frameshare_k46_moves_that_lose_nothing.Holds := by
  w_on; o_law
  refine HandSHeadRun.head_any (r := OpenLaw.row PySem.Challenge.rw_frameshare_k46_moves_that_lose_nothing) (q := view (OpenLaw.row PySem.Challenge.rw_frameshare_k46_moves_that_lose_nothing).prog [23]) (H := FM.hhk) (ob := FM.hob) (M := 2000) (loose := FM.hloose) (d := HandSHeadRun.topDef (OpenLaw.row PySem.Challenge.rw_frameshare_k46_moves_that_lose_nothing).prog 23) (kwd := []) FM.hob_eq
    (by kernel_rfl) (fun s => by kernel_rfl) FM.hrun (by kernel_rfl) (by kernel_rfl) (by kernel_rfl) (by rfl) (by first | assumption | decide +kernel) (by decide +kernel) ⟨rfl, rfl, rfl, rfl, rfl, by decide +kernel⟩ ?hw ?hc
  case hw => w_witness2
  case hc =>
    refine FM.walk_ofG (l := PySem.Challenge.rw_frameshare_k46_moves_that_lose_nothing) (n := 63) (k := 46) (x := "_law_script") (CX := fun w => FM.CXg PySem.Challenge.rw_frameshare_k46_moves_that_lose_nothing.prog w) rfl (by decide) (by kernel_rfl) ⟨rfl, by decide, by decide⟩ ?F (fun w H s e s' z => FM.cx_none H s e s' z)
    intro w mg fa h Y G hmg0
    obtain ⟨K, KX, c⟩ := Y
    have hmg : mg ("law" : PySem.Str) = some (.ref fa) := by
      have e : (HandSHeadRun.topDef (OpenLaw.row PySem.Challenge.rw_frameshare_k46_moves_that_lose_nothing).prog 23).name = ("law" : PySem.Str) := by kernel_rfl
      rw [← e]
      exact hmg0
    obtain ⟨fd, hb, hF⟩ := FM.hfacts (P := PySem.Challenge.rw_frameshare_k46_moves_that_lose_nothing.prog) (w := w) KX G hmg c
    exact ⟨K, ⟨K, fun _ => 0⟩, fd, FM.f_law, KX, rfl, hb, FM.plain_law, fun base _ _ => hF base⟩

