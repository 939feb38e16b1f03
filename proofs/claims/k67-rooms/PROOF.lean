import PyProof.Rows.All
import Wide.All
import OpenK.AllK
import Wide.FinOn
import HandS.ForMost
import HandS.Wide
import HandS.IsInst
import HandS.TupAny
import KE.KDictKeyed
import PyProof.AutoListH
import PyProof.ListMulRoad
import HandS.Deep
import HandS.Style
import PyProof.P3In
import HandS.Conv
import HandS.RaiseMore
import PyProof.ReprRoads
import PyProof.ReprRoom
import HandS.Walk
import HandS.Zip
import HandS.HeadHook1
import HandS.HeadHook2
import HandS.Head2
import HandS.HeadEnd
import HandS.Exc
import HandS.ExcOwn
import HandS.Words
import HandS.WordsExc
import HandS.Defaults
import KE.GoesNew
import PyProof.P3Eq
import KE.SortData
import HandS.SortInts
import HandS.Small
import KE.DataMinMax
import HandS.SortKw
import HandS.TryOnly
import HandS.SetFor
import HandS.Strs
import HandS.More
import HandS.Codes
import HandS.HeadHook4
import KE.GoesEnum
import PyProof.EnumMake
import HandS.TupMul
import KE.DataCmp
import HandS.TupSets
import KE.DataFind
import HandS.Rev
import HandS.RevTup
import PyProof.ListNew
import HandS.Text
import KE.KDictPairs
import HandS.Finally
import PyProof.AssignAttr
import HandS.ExcIs
import PyProof.StrOps2
import KE.KDictZip
import PySem.Challenge.RW_frameshare_k67_whole_floor_played_with_r
set_option Elab.async false
set_option linter.all false
set_option maxRecDepth 100000
set_option maxHeartbeats 4000000
namespace FM
open PySem PySem.Spec L2 PyProof.Rows
abbrev PD := PyData
abbrev Frag := PySem.W.Frag
abbrev NK := Option Int × List Int
def tupX (K : Frag) (ts : List (Str × List Str)) : Bool := ts.all fun t => He.tupB K t.1 (t.2.map .str)
def entSI (e : DictEntry) : Option (Str × Int) := match e.key, e.val with
  | .str x _, .int i _ => some (x, i)
  | _, _ => none
def gdB (K : Frag) (a : Addr) (kvs : List (Str × Int)) : Bool := match K.lookup a with
  | some ⟨_, _, .dict es _, _⟩ => decide (es.toList.map entSI = kvs.map some)
  | _ => false
def gdX (K : Frag) (ds : List (Str × List (Str × Int))) : Bool := ds.all fun d => gdB K (He.ga K d.1) d.2
def stW : String := "special-get-raises"
def wB (w : World) (b : Bool) : World := { w with params := { w.params with followText := fun s => bif s == stW then b else w.params.followText s } }
theorem wB_eq (w : World) : wB w (w.params.followText stW) = w := by
  obtain ⟨d, p⟩ := w
  have e : (fun s => bif s == stW then p.followText stW else p.followText s) = p.followText := by
    funext s
    by_cases h : s = stW
    · subst h
      simp
    · have : (s == stW) = false := beq_eq_false_iff_ne.mpr h
      rw [this]
      rfl
  show (⟨d, { p with followText := fun s => bif s == stW then p.followText stW else p.followText s }⟩ : World) = ⟨d, p⟩
  rw [e]
theorem runs_of {F : World → Prop} (h : ∀ w b, F (wB w b)) (w : World) : F w := by
  have := h w (w.params.followText stW)
  rwa [wB_eq] at this
def excB (K : Frag) (D : Addr) : Bool :=
  decide (PySem.W.findIn K (.ref D) "__getattribute__" = some (some (.builtin "BaseException.__getattribute__"))) && (decide (PySem.W.findIn K (.ref D) "__getattr__" = some none) && (decide (PySem.W.subIn K (.ref D) (.type "BaseException") = some true) && (PySem.W.hasDictIn K D &&
    (decide (PySem.W.findIn K (.ref D) "__class__" = some (some (.builtin "object.__class__"))) && (decide (PySem.W.specialIn K (.builtin "object.__class__") "__get__" = some (some (.builtin "getset_descriptor.__get__"))) && (decide (PySem.W.takesIn K (.builtin "object.__class__") = some true) && decide (PySem.W.mroIn K D (.type "object") = some true)))))))
def errB (K : Frag) (cl : Nat → Addr) (rs ys : List Nat) (fe : Nat) : Bool :=
  (rs.all fun r => excB K (cl r) && (decide (PySem.W.exmOne K (.ref (cl r)) (.ref (cl fe)) = some true) && (decide (PySem.W.kitOne K (.ref (cl r)) (.type "ValueError") = some true) && (ys.all fun y => decide (PySem.W.kitOne K (.ref (cl r)) (.ref (cl y)) = some (decide (r = y ∨ y = fe))))))) &&
    ((ys.all fun y => decide (PySem.W.kitOne K (.type "NoneType") (.ref (cl y)) = some false)) && decide (PySem.W.kitOne K (.type "NoneType") (.type "ValueError") = some false))
def topS (i : Nat) : Stmt := PySem.Challenge.pw_frameshare_k67_whole_floor_played_with_r.main.body.getD i (.Pass ⟨0, 0, 0, 0⟩)
def clsS (i j : Nat) : Stmt := match topS i with
  | .ClassDef _ _ _ b _ _ _ _ _ _ _ => b.getD j (.Pass ⟨0, 0, 0, 0⟩)
  | _ => .Pass ⟨0, 0, 0, 0⟩
abbrev s__law_tape : Stmt := topS 21
abbrev s_Floor___init__ : Stmt := clsS 19 0
abbrev s__law_draw : Stmt := topS 22
abbrev s__law_small : Stmt := topS 23
abbrev s__law_rooms : Stmt := topS 24
abbrev s__law_least : Stmt := topS 27
abbrev s_end_of : Stmt := topS 8
abbrev s_lie_over : Stmt := topS 9
abbrev s_rounded : Stmt := topS 7
abbrev s_least_place : Stmt := topS 13
abbrev s_Floor_come : Stmt := clsS 19 1
abbrev s_Floor_places : Stmt := clsS 19 8
abbrev s__law_come : Stmt := topS 28
abbrev s_Floor_looked_for : Stmt := clsS 19 2
abbrev s_Floor_leave : Stmt := clsS 19 3
abbrev s_Floor_give : Stmt := clsS 19 4
abbrev s_Floor_back : Stmt := clsS 19 5
abbrev s_height_things : Stmt := topS 10
abbrev s_Floor_height : Stmt := clsS 19 10
abbrev s_Floor_placed_anew : Stmt := clsS 19 6
abbrev s_is_free : Stmt := topS 15
abbrev s_next_move : Stmt := topS 16
abbrev s_moves : Stmt := topS 17
abbrev s_Floor_regrow : Stmt := clsS 19 7
abbrev s__law_carried : Stmt := topS 26
abbrev s__law_regrown : Stmt := topS 29
abbrev s__law_deed : Stmt := topS 30
abbrev s_Floor_given : Stmt := clsS 19 9
abbrev s__law_lies : Stmt := topS 25
abbrev s_law : Stmt := topS 31
def hcl (K : Frag) : Nat → Addr
  | 0 => He.ga K "Floor"
  | _ => 0
def d__law_tape : He.DefD := ⟨("_law_tape", none), "_law_tape", "_law_tape", defArgs s__law_tape, defBody s__law_tape, defScope s__law_tape, [], []⟩
def d_Floor___init__ : He.DefD := ⟨("Floor", some "__init__"), "__init__", "Floor.__init__", defArgs s_Floor___init__, defBody s_Floor___init__, defScope s_Floor___init__, [], []⟩
def d__law_draw : He.DefD := ⟨("_law_draw", none), "_law_draw", "_law_draw", defArgs s__law_draw, defBody s__law_draw, defScope s__law_draw, [], []⟩
def d__law_small : He.DefD := ⟨("_law_small", none), "_law_small", "_law_small", defArgs s__law_small, defBody s__law_small, defScope s__law_small, [], []⟩
def d__law_rooms : He.DefD := ⟨("_law_rooms", none), "_law_rooms", "_law_rooms", defArgs s__law_rooms, defBody s__law_rooms, defScope s__law_rooms, [], []⟩
def d__law_least : He.DefD := ⟨("_law_least", none), "_law_least", "_law_least", defArgs s__law_least, defBody s__law_least, defScope s__law_least, [], []⟩
def d_end_of : He.DefD := ⟨("end_of", none), "end_of", "end_of", defArgs s_end_of, defBody s_end_of, defScope s_end_of, [], []⟩
def d_lie_over : He.DefD := ⟨("lie_over", none), "lie_over", "lie_over", defArgs s_lie_over, defBody s_lie_over, defScope s_lie_over, [], []⟩
def d_rounded : He.DefD := ⟨("rounded", none), "rounded", "rounded", defArgs s_rounded, defBody s_rounded, defScope s_rounded, [], []⟩
def d_least_place : He.DefD := ⟨("least_place", none), "least_place", "least_place", defArgs s_least_place, defBody s_least_place, defScope s_least_place, [], []⟩
def d_Floor_come : He.DefD := ⟨("Floor", some "come"), "come", "Floor.come", defArgs s_Floor_come, defBody s_Floor_come, defScope s_Floor_come, [], []⟩
def d_Floor_places : He.DefD := ⟨("Floor", some "places"), "places", "Floor.places", defArgs s_Floor_places, defBody s_Floor_places, defScope s_Floor_places, [], []⟩
def d__law_come : He.DefD := ⟨("_law_come", none), "_law_come", "_law_come", defArgs s__law_come, defBody s__law_come, defScope s__law_come, [], []⟩
def d_Floor_looked_for : He.DefD := ⟨("Floor", some "looked_for"), "looked_for", "Floor.looked_for", defArgs s_Floor_looked_for, defBody s_Floor_looked_for, defScope s_Floor_looked_for, [], []⟩
def d_Floor_leave : He.DefD := ⟨("Floor", some "leave"), "leave", "Floor.leave", defArgs s_Floor_leave, defBody s_Floor_leave, defScope s_Floor_leave, [], []⟩
def d_Floor_give : He.DefD := ⟨("Floor", some "give"), "give", "Floor.give", defArgs s_Floor_give, defBody s_Floor_give, defScope s_Floor_give, [], []⟩
def d_Floor_back : He.DefD := ⟨("Floor", some "back"), "back", "Floor.back", defArgs s_Floor_back, defBody s_Floor_back, defScope s_Floor_back, [], []⟩
def d_height_things : He.DefD := ⟨("height_things", none), "height", "height", defArgs s_height_things, defBody s_height_things, defScope s_height_things, [], []⟩
def d_Floor_height : He.DefD := ⟨("Floor", some "height"), "height", "Floor.height", defArgs s_Floor_height, defBody s_Floor_height, defScope s_Floor_height, [], []⟩
def d_Floor_placed_anew : He.DefD := ⟨("Floor", some "placed_anew"), "placed_anew", "Floor.placed_anew", defArgs s_Floor_placed_anew, defBody s_Floor_placed_anew, defScope s_Floor_placed_anew, [], []⟩
def d_is_free : He.DefD := ⟨("is_free", none), "is_free", "is_free", defArgs s_is_free, defBody s_is_free, defScope s_is_free, [], []⟩
def d_next_move : He.DefD := ⟨("next_move", none), "next_move", "next_move", defArgs s_next_move, defBody s_next_move, defScope s_next_move, [], []⟩
def d_moves : He.DefD := ⟨("moves", none), "moves", "moves", defArgs s_moves, defBody s_moves, defScope s_moves, [], []⟩
def d_Floor_regrow : He.DefD := ⟨("Floor", some "regrow"), "regrow", "Floor.regrow", defArgs s_Floor_regrow, defBody s_Floor_regrow, defScope s_Floor_regrow, [], []⟩
def d__law_carried : He.DefD := ⟨("_law_carried", none), "_law_carried", "_law_carried", defArgs s__law_carried, defBody s__law_carried, defScope s__law_carried, [], []⟩
def d__law_regrown : He.DefD := ⟨("_law_regrown", none), "_law_regrown", "_law_regrown", defArgs s__law_regrown, defBody s__law_regrown, defScope s__law_regrown, [], []⟩
def d__law_deed : He.DefD := ⟨("_law_deed", none), "_law_deed", "_law_deed", defArgs s__law_deed, defBody s__law_deed, defScope s__law_deed, [], []⟩
def d_Floor_given : He.DefD := ⟨("Floor", some "given"), "given", "Floor.given", defArgs s_Floor_given, defBody s_Floor_given, defScope s_Floor_given, [], []⟩
def d__law_lies : He.DefD := ⟨("_law_lies", none), "_law_lies", "_law_lies", defArgs s__law_lies, defBody s__law_lies, defScope s__law_lies, [], []⟩
def d_law : He.DefD := ⟨("law", none), "law", "law", defArgs s_law, defBody s_law, defScope s_law, [], []⟩
def hfn : List He.DefD := ([d__law_tape, d_Floor___init__, d__law_draw, d__law_small, d__law_rooms, d__law_least, d_end_of, d_lie_over, d_rounded, d_least_place, d_Floor_come, d_Floor_places] : List He.DefD) ++ ([d__law_come, d_Floor_looked_for, d_Floor_leave, d_Floor_give, d_Floor_back, d_height_things, d_Floor_height, d_Floor_placed_anew, d_is_free, d_next_move, d_moves, d_Floor_regrow] : List He.DefD) ++ ([d__law_carried, d__law_regrown, d__law_deed, d_Floor_given, d__law_lies, d_law] : List He.DefD)
def hfa : List He.Fa := ([.glo "_law_tape", .mkr "Floor", .glo "_law_draw", .glo "_law_small", .glo "_law_rooms", .glo "_law_least", .glo "end_of", .glo "lie_over", .glo "rounded", .glo "least_place", .meth "Floor" "come", .meth "Floor" "places"] : List He.Fa) ++ ([.glo "_law_come", .meth "Floor" "looked_for", .meth "Floor" "leave", .meth "Floor" "give", .meth "Floor" "back", .glo "height_things", .meth "Floor" "height", .meth "Floor" "placed_anew", .glo "is_free", .glo "next_move", .glo "moves", .meth "Floor" "regrow"] : List He.Fa) ++ ([.glo "_law_carried", .glo "_law_regrown", .glo "_law_deed", .meth "Floor" "given", .glo "_law_lies", .glo "law", .free "abs", .free "any", .free "dict", .free "enumerate", .free "int", .free "len"] : List He.Fa) ++ ([.free "list", .free "max", .free "min", .free "range", .free "sorted", .free "tuple", .free "zip", .glo "Floor", .cls "Floor", .noat "Floor" "things", .noat "Floor" "own_places", .noat "Floor" "held"] : List He.Fa) ++ ([.noat "Floor" "many"] : List He.Fa)
def hloose : List PySem.Str := (["_wall", "FrameError", "NoThing", "Given", "NotGiven", "rounded", "end_of", "lie_over", "height", "height_things", "least_place", "is_free"] : List PySem.Str) ++ (["next_move", "moves", "Floor", "_law_tape", "_law_draw", "_law_small", "_law_rooms", "_law_lies", "_law_carried", "_law_least", "_law_come", "_law_regrown"] : List PySem.Str) ++ (["_law_deed"] : List PySem.Str)
abbrev hR : PySem.W.OpenRow := PySem.W.OpenLaw.row PySem.Challenge.rw_frameshare_k67_whole_floor_played_with_r
abbrev hhk : PySem.W.Hook := He.hookD 6 hfa hfn
def hob (s : PySem.W.SharedT) : He.AlD := He.obsDG 6 hfa hfn (HandSHeadRun.getT s)
theorem hob_eq (s : PySem.W.SharedT) : hob s = hhk.obs s.abs := He.obsDG_eq (HandSHeadRun.getT_eq s)
theorem hrun (w : World) : HandSHeadRun.RunEq hR (PySem.W.view hR.prog [31]) hhk hob 8000 hloose w := by
  intro os
  kernel_rfl
end FM
namespace FM
open PySem L2


def keyD : Key → PD
  | .inl i => .int i
  | .inr x => .str x
def kp (p : Key × PD) : PD × PD := (keyD p.1, p.2)
def tp (p : List Key × PD) : PD × PD := (.tuple (p.1.map keyD), p.2)

/-! ### frozen data: what stands at F -/
/-- no tuple of keys, but for the empty one -/
def Nk (vs : List V) : Prop := ∀ z : List Key, z ≠ [] → vs ≠ z.map kV
/-- a tuple, or one whose object is known -/
def RdT (F : Hp) (a : Addr) (vs : List V) : Prop := F a = some (.tup vs) ∨ ((∃ ob, F a = some (.frz ob (.tup vs))) ∧ Nk vs)
mutual
inductive Rep (K : Frag) (F : Hp) : V → PD → Prop
  | non : Rep K F .non .none
  | bl (b : Bool) : Rep K F (.bl b) (.bool b)
  | int (i : Int) : Rep K F (.int i) (.int i)
  | str (x : Str) : Rep K F (.str x) (.str x)
  | lst {a : Addr} {vs : List V} {ds : List PD} : SqL K F a vs → Reps K F vs ds → Rep K F (.ref a) (.list ds)
  | tup {a : Addr} {vs : List V} {ds : List PD} : RdT F a vs → Reps K F vs ds → Rep K F (.ref a) (.tuple ds)
  | dic {a : Addr} {kvs : List (Key × V)} {ds : List (Key × PD)} {pd : PD} : Rd F a (.dK kvs) → RepK K F kvs ds → pd = .dict (ds.map kp) → Rep K F (.ref a) pd
  | dit {a : Addr} {kvs : List (List Key × V)} {ds : List (List Key × PD)} {pd : PD} : Rd F a (.dT kvs) → RepT K F kvs ds → pd = .dict (ds.map tp) → Rep K F (.ref a) pd
inductive Reps (K : Frag) (F : Hp) : List V → List PD → Prop
  | nil : Reps K F [] []
  | cons {v : V} {d : PD} {vs : List V} {ds : List PD} : Rep K F v d → Reps K F vs ds → Reps K F (v :: vs) (d :: ds)
inductive RepK (K : Frag) (F : Hp) : List (Key × V) → List (Key × PD) → Prop
  | nil : RepK K F [] []
  | cons {k : Key} {v : V} {d : PD} {vs : List (Key × V)} {ds : List (Key × PD)} : Rep K F v d → RepK K F vs ds → RepK K F ((k, v) :: vs) ((k, d) :: ds)
inductive RepT (K : Frag) (F : Hp) : List (List Key × V) → List (List Key × PD) → Prop
  | nil : RepT K F [] []
  | cons {k : List Key} {v : V} {d : PD} {vs : List (List Key × V)} {ds : List (List Key × PD)} : Rep K F v d → RepT K F vs ds → RepT K F ((k, v) :: vs) ((k, d) :: ds)
end

theorem rd_sub {F F' : Hp} {a : Addr} {u : HO} (s : Same F F') (h : Rd F a u) : Rd F' a u := by
  rcases h with h | ⟨o, h⟩
  · exact .inl (s _ _ h)
  · exact .inr ⟨o, s _ _ h⟩
theorem sqL_sub {K : Frag} {F F' : Hp} {a : Addr} {vs : List V} (s : Same F F') (h : SqL K F a vs) : SqL K F' a vs := h.imp (rd_sub s) id
theorem sqT_sub {K : Frag} {F F' : Hp} {a : Addr} {vs : List V} (s : Same F F') (h : SqT K F a vs) : SqT K F' a vs := h.imp (rd_sub s) id

theorem RdT.sub {F F' : Hp} {a : Addr} {vs : List V} (s : Same F F') (h : RdT F a vs) : RdT F' a vs := by
  rcases h with h | ⟨⟨o, h⟩, n⟩
  · exact .inl (s _ _ h)
  · exact .inr ⟨⟨o, s _ _ h⟩, n⟩
theorem RdT.rd {F : Hp} {a : Addr} {vs : List V} (h : RdT F a vs) : Rd F a (.tup vs) := by
  rcases h with h | ⟨⟨o, h⟩, _⟩
  · exact .inl h
  · exact .inr ⟨o, h⟩
theorem RdT.sq {K : Frag} {F : Hp} {a : Addr} {vs : List V} (h : RdT F a vs) : SqT K F a vs := .inl h.rd
theorem RdT.key {F : Hp} {a : Addr} {z : List Key} (h : RdT F a (z.map kV)) (hz : z ≠ []) : F a = some (.tup (z.map kV)) := by
  rcases h with h | ⟨_, n⟩
  · exact h
  · exact absurd rfl (n z hz)

mutual
theorem Rep.sub {K : Frag} {F F' : Hp} (s : Same F F') : ∀ {v : V} {d : PD}, Rep K F v d → Rep K F' v d
  | _, _, .non => .non
  | _, _, .bl b => .bl b
  | _, _, .int i => .int i
  | _, _, .str x => .str x
  | _, _, .lst h r => .lst (sqL_sub s h) (Reps.sub s r)
  | _, _, .tup h r => .tup (h.sub s) (Reps.sub s r)
  | _, _, .dic h r e => .dic (rd_sub s h) (RepK.sub s r) e
  | _, _, .dit h r e => .dit (rd_sub s h) (RepT.sub s r) e
theorem Reps.sub {K : Frag} {F F' : Hp} (s : Same F F') : ∀ {v : List V} {d : List PD}, Reps K F v d → Reps K F' v d
  | _, _, .nil => .nil
  | _, _, .cons h r => .cons (Rep.sub s h) (Reps.sub s r)
theorem RepK.sub {K : Frag} {F F' : Hp} (s : Same F F') : ∀ {v : List (Key × V)} {d : List (Key × PD)}, RepK K F v d → RepK K F' v d
  | _, _, .nil => .nil
  | _, _, .cons h r => .cons (Rep.sub s h) (RepK.sub s r)
theorem RepT.sub {K : Frag} {F F' : Hp} (s : Same F F') : ∀ {v : List (List Key × V)} {d : List (List Key × PD)}, RepT K F v d → RepT K F' v d
  | _, _, .nil => .nil
  | _, _, .cons h r => .cons (Rep.sub s h) (RepT.sub s r)
end

/-- F is a part of H, but for locks -/
def FLe (F H : Hp) : Prop := ∀ a u, F a = some u → H a = some u ∨ (Mut (some u) ∧ ∃ o, H a = some (.frz o u))
theorem rd_le {F H : Hp} {a : Addr} {u : HO} (s : FLe F H) (h : Rd F a u) : Rd H a u := by
  rcases h with h | ⟨o, h⟩
  · rcases s _ _ h with q | ⟨_, o, q⟩
    · exact .inl q
    · exact .inr ⟨o, q⟩
  · rcases s _ _ h with q | ⟨m, _⟩
    · exact .inr ⟨o, q⟩
    · exact m.elim
theorem tup_le {F H : Hp} {a : Addr} {vs : List V} (s : FLe F H) (h : RdT F a vs) : RdT H a vs := by
  rcases h with h | ⟨⟨o, h⟩, n⟩
  · rcases s _ _ h with q | ⟨m, _⟩
    · exact .inl q
    · exact m.elim
  · rcases s _ _ h with q | ⟨m, _⟩
    · exact .inr ⟨⟨o, q⟩, n⟩
    · exact m.elim
theorem sqL_le {K : Frag} {F H : Hp} {a : Addr} {vs : List V} (s : FLe F H) (h : SqL K F a vs) : SqL K H a vs := h.imp (rd_le s) id
theorem sqT_le {K : Frag} {F H : Hp} {a : Addr} {vs : List V} (s : FLe F H) (h : SqT K F a vs) : SqT K H a vs := h.imp (rd_le s) id

/-- a tuple of ints and texts alone -/
def gnd (u : HO) : Prop := ∃ k : List Key, u = .tup (k.map kV)
/-- something stands at a that is no such tuple -/
def Th (H : Hp) (a : Addr) : Prop := H a ≠ none ∧ ∀ u, gnd u → H a ≠ some u
/-- the heap has grown -/
structure Xt (F H F' H' : Hp) : Prop where
  ex : Same H H'
  sub : Same F F'
  fle : FLe F' H'
  fresh : ∀ a u, F' a = some u → F a = some u ∨ H a = none ∨ (gnd u ∧ H a = some u)
theorem Xt.refl {F H : Hp} (h : FLe F H) : Xt F H F H := ⟨Same.refl _, Same.refl _, h, fun _ _ e => .inl e⟩
theorem none_back {H H' : Hp} (s : Same H H') {a : Addr} (h : H' a = none) : H a = none := s.free h
theorem Xt.trans {F H F1 H1 F2 H2 : Hp} (x : Xt F H F1 H1) (y : Xt F1 H1 F2 H2) : Xt F H F2 H2 :=
  ⟨x.ex.trans y.ex, x.sub.trans y.sub, y.fle, fun a u e => by
    rcases y.fresh a u e with q | q | ⟨g, q⟩
    · exact x.fresh a u q
    · exact .inr (.inl (none_back x.ex q))
    · cases w : H a with
      | none => exact .inr (.inl rfl)
      | some z =>
        have := x.ex a z w
        rw [q] at this
        cases this
        exact .inr (.inr ⟨g, rfl⟩)⟩
theorem FLe.ex {F H H' : Hp} (f : FLe F H) (s : Same H H') : FLe F H' := fun a u e => by
  rcases f a u e with q | ⟨m, o, q⟩
  · exact .inl (s _ _ q)
  · exact .inr ⟨m, o, s _ _ q⟩
theorem same_upd {H : Hp} {p : Addr} {o : HO} (h : H p = none) : Same H (upd H p o) := fun a u e => by
  rw [upd_ne (ne_of_none e h)]
  exact e
/-- a new frozen object -/
theorem Xt.new {F H : Hp} {p : Addr} {o : HO} (f : FLe F H) (h : H p = none) : Xt F H (upd F p o) (upd H p o) := by
  have hF : F p = none := by
    cases e : F p with
    | none => rfl
    | some u =>
      rcases f p u e with q | ⟨_, o, q⟩
      · rw [h] at q; cases q
      · rw [h] at q; cases q
  refine ⟨same_upd h, same_upd hF, fun a u e => ?_, fun a u e => ?_⟩
  · by_cases ha : a = p
    · subst ha
      rw [upd_same] at e ⊢
      exact .inl e
    · rw [upd_ne ha] at e ⊢
      exact f a u e
  · by_cases ha : a = p
    · subst ha
      exact .inr (.inl h)
    · rw [upd_ne ha] at e
      exact .inl e
/-- a new object, not frozen -/
theorem Xt.own {F H : Hp} {p : Addr} {o : HO} (f : FLe F H) (h : H p = none) : Xt F H F (upd H p o) := ⟨same_upd h, Same.refl _, f.ex (same_upd h), fun _ _ e => .inl e⟩
theorem fle_none {F H : Hp} {p : Addr} (f : FLe F H) (h : H p = none) : F p = none := by
  cases e : F p with
  | none => rfl
  | some u =>
    rcases f p u e with q | ⟨_, o, q⟩
    · rw [h] at q; cases q
    · rw [h] at q; cases q

/-! ### keys: a pair of a number, or none, and a tuple of numbers; a dict of these -/
def nkV : Option Int → V
  | none => .non
  | some i => .int i
def nkH1 : Option Int → Int
  | none => reduceHash 0xFCA86420
  | some i => hashInt i
def nkH (k : NK) : Int := reduceHash (Builtin.Tuple.tupleHashOf [nkH1 k.1, reduceHash (Builtin.Tuple.tupleHashOf (k.2.map hashInt))])
def nkE (u : NK × Addr × Value) : DictEntry := ⟨nkH u.1, .ref u.2.1, u.2.2⟩
def NkR (p : NK × Addr × V) (q : NK × Addr × Value) : Prop := p.1 = q.1 ∧ p.2.1 = q.2.1 ∧ RelV p.2.2 q.2.2
def NkP (a : Addr) (xs : List (NK × Addr × V)) (h : Heap) : Prop := xs.length ≤ sizeLine ∧ (a == sysModules) = false ∧ ∃ us : List (NK × Addr × Value), Paired NkR xs us ∧ ∃ o es ep, h.get? a = some o ∧ o.ExactDict ∧ o.data = .dict es ep ∧ es.toList = us.map nkE ∧ (us.map (·.1)).Nodup
def NkO (a : Addr) (xs : List (NK × Addr × V)) : HO := .ext (NkP a xs)
def NkAt (F : Hp) (b : Addr) (k : NK) : Prop := ∃ c, RdT F b [nkV k.1, .ref c] ∧ RdT F c (k.2.map V.int)
theorem NkAt.sub {F F' : Hp} {b : Addr} {k : NK} (s : Same F F') (h : NkAt F b k) : NkAt F' b k := let ⟨c, p, q⟩ := h; ⟨c, p.sub s, q.sub s⟩
theorem NkAt.le {F H : Hp} {b : Addr} {k : NK} (s : FLe F H) (h : NkAt F b k) : NkAt H b k := let ⟨c, p, q⟩ := h; ⟨c, tup_le s p, tup_le s q⟩

/-! ### owned things -/
inductive O where
  | fz (d : PD)
  | lst (ds : List PD)
  | dic (kvs : List (Key × PD))
  | dit (kvs : List (List Key × PD))
  | nst (os : List O)
  | ntp (os : List O)
  | ndc (kvs : List (Key × O))
  | ins (c : Nat) (fs : List (Str × O))
  | ktp (ds : List PD)
  | ctp (ds : List PD)
  | exo (c : Nat)
  | cod (c : Nat)
  | dnk (kvs : List (NK × O))
  | dead
instance : Inhabited O := ⟨.dead⟩

/-- K: the written part; cl: the classes' addresses -/
structure Kc where
  K : Frag
  cl : Nat → Addr

mutual
inductive Own (k : Kc) (F H : Hp) : V → O → List Addr → Prop
  | fz {v : V} {d : PD} : Rep k.K F v d → Own k F H v (.fz d) []
  | lst {a : Addr} {vs : List V} {ds : List PD} : Rd H a (.lst vs) → Reps k.K F vs ds → Own k F H (.ref a) (.lst ds) [a]
  | dic {a : Addr} {vs : List (Key × V)} {ds : List (Key × PD)} : Rd H a (.dK vs) → RepK k.K F vs ds → Own k F H (.ref a) (.dic ds) [a]
  | dit {a : Addr} {vs : List (List Key × V)} {ds : List (List Key × PD)} : Rd H a (.dT vs) → RepT k.K F vs ds → Own k F H (.ref a) (.dit ds) [a]
  | nst {a : Addr} {vs : List V} {os : List O} {S : List Addr} : Rd H a (.lst vs) → Owns k F H vs os S → Own k F H (.ref a) (.nst os) (a :: S)
  | ntp {a : Addr} {vs : List V} {os : List O} {S : List Addr} : H a = some (.tup vs) → (∀ z : List Key, vs ≠ z.map kV) → Owns k F H vs os S → Own k F H (.ref a) (.ntp os) (a :: S)
  | ndc {a : Addr} {vs : List (Key × V)} {os : List (Key × O)} {S : List Addr} : Rd H a (.dK vs) → OwnK k F H vs os S → Own k F H (.ref a) (.ndc os) (a :: S)
  | ins {a dx : Addr} {c : Nat} {vs : List (Str × V)} {os : List (Str × O)} {S : List Addr} : H a = some (.ins (k.cl c) dx vs) → OwnF k F H vs os S → Own k F H (.ref a) (.ins c os) (a :: S)
  | ktp {a : Addr} {vs : List V} {ds : List PD} : (∀ G, SqT k.K G a vs) → Reps k.K F vs ds → Own k F H (.ref a) (.ktp ds) []
  | ctp {a : Addr} {vs : List V} {ds : List PD} {ob : Obj} : F a = some (.frz ob (.tup vs)) → Nk vs → ob.cls = .type "tuple" → ob.dict = none → Reps k.K F vs ds → Own k F H (.ref a) (.ctp ds) []
  | exo {a : Addr} {c : Nat} {ob : Obj} : F a = some (.frz ob (.own a)) → ob.cls = .ref (k.cl c) → ob.dict = none → (∃ vs, ob.data = .fields vs) → Own k F H (.ref a) (.exo c) []
  | cod {c : Nat} : Own k F H (.ref (k.cl c)) (.cod c) []
  | dnk {a : Addr} {xs : List (NK × Addr × V)} {os : List (NK × O)} {S : List Addr} : H a = some (NkO a xs) → OwnN k F H xs os S → Own k F H (.ref a) (.dnk os) (a :: S)
  | dead {v : V} : Own k F H v .dead []
inductive Owns (k : Kc) (F H : Hp) : List V → List O → List Addr → Prop
  | nil : Owns k F H [] [] []
  | cons {v : V} {o : O} {vs : List V} {os : List O} {S T : List Addr} : Own k F H v o S → Owns k F H vs os T → Owns k F H (v :: vs) (o :: os) (S ++ T)
inductive OwnK (k : Kc) (F H : Hp) : List (Key × V) → List (Key × O) → List Addr → Prop
  | nil : OwnK k F H [] [] []
  | cons {x : Key} {v : V} {o : O} {vs : List (Key × V)} {os : List (Key × O)} {S T : List Addr} : Own k F H v o S → OwnK k F H vs os T → OwnK k F H ((x, v) :: vs) ((x, o) :: os) (S ++ T)
inductive OwnF (k : Kc) (F H : Hp) : List (Str × V) → List (Str × O) → List Addr → Prop
  | nil : OwnF k F H [] [] []
  | cons {x : Str} {v : V} {o : O} {vs : List (Str × V)} {os : List (Str × O)} {S T : List Addr} : Own k F H v o S → OwnF k F H vs os T → OwnF k F H ((x, v) :: vs) ((x, o) :: os) (S ++ T)
inductive OwnN (k : Kc) (F H : Hp) : List (NK × Addr × V) → List (NK × O) → List Addr → Prop
  | nil : OwnN k F H [] [] []
  | cons {x : NK} {b : Addr} {v : V} {o : O} {vs : List (NK × Addr × V)} {os : List (NK × O)} {S T : List Addr} : NkAt F b x → Own k F H v o S → OwnN k F H vs os T → OwnN k F H ((x, b, v) :: vs) ((x, o) :: os) (S ++ T)
end

/-- what stands at S is the same -/
def At (S : List Addr) (H H' : Hp) : Prop := ∀ a ∈ S, ∀ u, H a = some u → H' a = some u
theorem At.of {S : List Addr} {H H' : Hp} (s : Same H H') : At S H H' := fun a _ u e => s a u e
theorem At.mono {S T : List Addr} {H H' : Hp} (h : ∀ a ∈ S, a ∈ T) (t : At T H H') : At S H H' := fun a m => t a (h a m)
theorem At.left {S T : List Addr} {H H' : Hp} (t : At (S ++ T) H H') : At S H H' := t.mono fun _ m => List.mem_append_left _ m
theorem At.right {S T : List Addr} {H H' : Hp} (t : At (S ++ T) H H') : At T H H' := t.mono fun _ m => List.mem_append_right _ m
theorem At.tail {a : Addr} {T : List Addr} {H H' : Hp} (t : At (a :: T) H H') : At T H H' := t.mono fun _ m => List.mem_cons_of_mem _ m
theorem At.rd {S : List Addr} {H H' : Hp} {a : Addr} {u : HO} (t : At S H H') (m : a ∈ S) (h : Rd H a u) : Rd H' a u := by
  rcases h with h | ⟨o, h⟩
  · exact .inl (t a m _ h)
  · exact .inr ⟨o, t a m _ h⟩

mutual
theorem Own.mono {k : Kc} {F F' H H' : Hp} (s : Same F F') : ∀ {v : V} {o : O} {S : List Addr}, At S H H' → Own k F H v o S → Own k F' H' v o S
  | _, _, _, _, .fz h => .fz (h.sub s)
  | _, _, _, t, .lst h r => .lst (t.rd (by simp) h) (r.sub s)
  | _, _, _, t, .dic h r => .dic (t.rd (by simp) h) (r.sub s)
  | _, _, _, t, .dit h r => .dit (t.rd (by simp) h) (r.sub s)
  | _, _, _, t, .nst h r => .nst (t.rd (by simp) h) (Owns.mono s t.tail r)
  | _, _, _, t, .ntp h g r => .ntp (t _ (by simp) _ h) g (Owns.mono s t.tail r)
  | _, _, _, t, .ndc h r => .ndc (t.rd (by simp) h) (OwnK.mono s t.tail r)
  | _, _, _, t, .ins h r => .ins (t _ (by simp) _ h) (OwnF.mono s t.tail r)
  | _, _, _, _, .ktp h r => .ktp h (r.sub s)
  | _, _, _, _, .ctp h n c d r => .ctp (s _ _ h) n c d (r.sub s)
  | _, _, _, _, .exo h c d f => .exo (s _ _ h) c d f
  | _, _, _, _, .cod => .cod
  | _, _, _, t, .dnk h r => .dnk (t _ (by simp) _ h) (OwnN.mono s t.tail r)
  | _, _, _, _, .dead => .dead
theorem Owns.mono {k : Kc} {F F' H H' : Hp} (s : Same F F') : ∀ {v : List V} {o : List O} {S : List Addr}, At S H H' → Owns k F H v o S → Owns k F' H' v o S
  | _, _, _, _, .nil => .nil
  | _, _, _, t, .cons h r => .cons (Own.mono s t.left h) (Owns.mono s t.right r)
theorem OwnK.mono {k : Kc} {F F' H H' : Hp} (s : Same F F') : ∀ {v : List (Key × V)} {o : List (Key × O)} {S : List Addr}, At S H H' → OwnK k F H v o S → OwnK k F' H' v o S
  | _, _, _, _, .nil => .nil
  | _, _, _, t, .cons h r => .cons (Own.mono s t.left h) (OwnK.mono s t.right r)
theorem OwnF.mono {k : Kc} {F F' H H' : Hp} (s : Same F F') : ∀ {v : List (Str × V)} {o : List (Str × O)} {S : List Addr}, At S H H' → OwnF k F H v o S → OwnF k F' H' v o S
  | _, _, _, _, .nil => .nil
  | _, _, _, t, .cons h r => .cons (Own.mono s t.left h) (OwnF.mono s t.right r)
theorem OwnN.mono {k : Kc} {F F' H H' : Hp} (s : Same F F') : ∀ {v : List (NK × Addr × V)} {o : List (NK × O)} {S : List Addr}, At S H H' → OwnN k F H v o S → OwnN k F' H' v o S
  | _, _, _, _, .nil => .nil
  | _, _, _, t, .cons n h r => .cons (n.sub s) (Own.mono s t.left h) (OwnN.mono s t.right r)
end

/-- slots -/
inductive Envs (k : Kc) (F H : Hp) : L2.St → List O → List Addr → Prop
  | nil : Envs k F H [] [] []
  | dead {x : Option V} {σ : L2.St} {ρ : List O} {S : List Addr} : Envs k F H σ ρ S → Envs k F H (x :: σ) (.dead :: ρ) S
  | cons {v : V} {o : O} {σ : L2.St} {ρ : List O} {S T : List Addr} : Own k F H v o S → Envs k F H σ ρ T → Envs k F H (some v :: σ) (o :: ρ) (S ++ T)
theorem Envs.mono {k : Kc} {F F' H H' : Hp} (s : Same F F') : ∀ {σ : L2.St} {ρ : List O} {S : List Addr}, At S H H' → Envs k F H σ ρ S → Envs k F' H' σ ρ S
  | _, _, _, _, .nil => .nil
  | _, _, _, t, .dead r => .dead (Envs.mono s t r)
  | _, _, _, t, .cons h r => .cons (Own.mono s t.left h) (Envs.mono s t.right r)
theorem Envs.length {k : Kc} {F H : Hp} : ∀ {σ : L2.St} {ρ : List O} {S : List Addr}, Envs k F H σ ρ S → σ.length = ρ.length
  | _, _, _, .nil => rfl
  | _, _, _, .dead r => congrArg (· + 1) (Envs.length r)
  | _, _, _, .cons _ r => congrArg (· + 1) (Envs.length r)

/-- a view: it may lean on what stands at S -/
def Vw (k : Kc) (F H : Hp) (S : List Addr) (v : V) (o : O) : Prop := ∃ T, (∀ a ∈ T, a ∈ S) ∧ Own k F H v o T
inductive Vws (k : Kc) (F H : Hp) (S : List Addr) : List V → List O → Prop
  | nil : Vws k F H S [] []
  | cons {v : V} {o : O} {vs : List V} {os : List O} : Vw k F H S v o → Vws k F H S vs os → Vws k F H S (v :: vs) (o :: os)
theorem Vw.mono {k : Kc} {F F' H H' : Hp} {S : List Addr} {v : V} {o : O} (s : Same F F') (t : At S H H') (h : Vw k F H S v o) : Vw k F' H' S v o :=
  let ⟨T, m, q⟩ := h
  ⟨T, m, q.mono s (t.mono m)⟩
theorem Vw.xt {k : Kc} {F F' H H' : Hp} {S : List Addr} {v : V} {o : O} (x : Xt F H F' H') (h : Vw k F H S v o) : Vw k F' H' S v o := h.mono x.sub (At.of x.ex)
theorem Vws.xt {k : Kc} {F F' H H' : Hp} {S : List Addr} (x : Xt F H F' H') : ∀ {v : List V} {o : List O}, Vws k F H S v o → Vws k F' H' S v o
  | _, _, .nil => .nil
  | _, _, .cons h r => .cons (h.xt x) (Vws.xt x r)
theorem Vw.fz {k : Kc} {F H : Hp} {S : List Addr} {v : V} {d : PD} (h : Rep k.K F v d) : Vw k F H S v (.fz d) := ⟨[], ⟨(fun _ m => by cases m), .fz h⟩⟩
theorem Vw.rep {k : Kc} {F H : Hp} {S : List Addr} {v : V} {d : PD} (h : Vw k F H S v (.fz d)) : Rep k.K F v d := by
  obtain ⟨T, _, q⟩ := h
  cases q with
  | fz r => exact r
theorem Envs.xt {k : Kc} {F F' H H' : Hp} {σ : L2.St} {ρ : List O} {S : List Addr} (x : Xt F H F' H') (h : Envs k F H σ ρ S) : Envs k F' H' σ ρ S := h.mono x.sub (At.of x.ex)
theorem Envs.get {k : Kc} {F H : Hp} : ∀ {σ : L2.St} {ρ : List O} {S : List Addr} {i : Nat} {o : O}, Envs k F H σ ρ S → ρ[i]? = some o → o = .dead ∨ ∃ v, σ[i]? = some (some v) ∧ Vw k F H S v o
  | _, _, _, _, _, .nil, e => by simp at e
  | _, _, _, 0, _, .dead r, e => .inl (by simpa using e.symm)
  | _, _, _, 0, _, .cons h r, e => by
    have e' : _ = _ := Option.some.inj (by simpa using e)
    subst e'
    exact .inr ⟨_, rfl, _, fun a m => List.mem_append_left _ m, h⟩
  | _, _, _, i + 1, _, .dead r, e => by
    rcases Envs.get (i := i) r (by simpa using e) with q | ⟨v, q, w⟩
    · exact .inl q
    · exact .inr ⟨v, by simpa using q, w⟩
  | _, _, _, i + 1, _, .cons h r, e => by
    rcases Envs.get (i := i) r (by simpa using e) with q | ⟨v, q, T, m, w⟩
    · exact .inl q
    · exact .inr ⟨v, by simpa using q, T, fun a z => List.mem_append_right _ (m a z), w⟩
end FM
namespace FM
open PySem L2

/-! ### from owned to frozen -/
mutual
def toPD : O → Option PD
  | .fz d => some d
  | .lst ds => some (.list ds)
  | .dic ds => some (.dict (ds.map kp))
  | .dit ds => some (.dict (ds.map tp))
  | .nst os => (toPDs os).map .list
  | .ntp os => (toPDs os).map .tuple
  | .ndc os => (toPDk os).map fun ds => .dict (ds.map kp)
  | .ins _ _ => none
  | .ktp _ => none
  | .ctp ds => some (.tuple ds)
  | .exo _ => none
  | .cod _ => none
  | .dnk _ => none
  | .dead => none
def toPDs : List O → Option (List PD)
  | [] => some []
  | o :: os => match toPD o, toPDs os with
    | some d, some ds => some (d :: ds)
    | _, _ => none
def toPDk : List (Key × O) → Option (List (Key × PD))
  | [] => some []
  | (k, o) :: os => match toPD o, toPDk os with
    | some d, some ds => some ((k, d) :: ds)
    | _, _ => none
end
def over (F H : Hp) (T : List Addr) : Hp := fun a => if a ∈ T then H a else F a
theorem over_in {F H : Hp} {T : List Addr} {a : Addr} (h : a ∈ T) : over F H T a = H a := if_pos h
theorem over_out {F H : Hp} {T : List Addr} {a : Addr} (h : a ∉ T) : over F H T a = F a := if_neg h
theorem over_rd {F H : Hp} {T : List Addr} {a : Addr} {u : HO} (h : a ∈ T) (r : Rd H a u) : Rd (over F H T) a u := by
  unfold Rd
  rw [over_in h]
  exact r
theorem over_sub {F H : Hp} {T : List Addr} (off : ∀ a ∈ T, F a = none) : Same F (over F H T) := fun a u e => by
  by_cases h : a ∈ T
  · rw [off a h] at e; cases e
  · rw [over_out h]; exact e
theorem over_le {F H : Hp} {T : List Addr} (f : FLe F H) : FLe (over F H T) H := fun a u e => by
  by_cases h : a ∈ T
  · rw [over_in h] at e; exact .inl e
  · rw [over_out h] at e; exact f a u e
theorem over_fresh {F H : Hp} {T : List Addr} {a : Addr} {u : HO} (e : over F H T a = some u) : F a = some u ∨ a ∈ T := by
  by_cases h : a ∈ T
  · exact .inr h
  · rw [over_out h] at e; exact .inl e
mutual
theorem own_fz {k : Kc} {F H G : Hp} {T : List Addr} (s : Same F G) (g : ∀ a u, a ∈ T → Rd H a u → Rd G a u) (gt : ∀ a vs, a ∈ T → H a = some (.tup vs) → G a = some (.tup vs)) : ∀ {v : V} {o : O} {S : List Addr} {d : PD}, (∀ a ∈ S, a ∈ T) → Own k F H v o S → toPD o = some d → Rep k.K G v d
  | _, _, _, _, _, .fz h, e => by
    have e' := Option.some.inj e
    subst e'
    exact h.sub s
  | _, _, _, _, m, .lst h r, e => by
    have e' := Option.some.inj e
    subst e'
    exact .lst (.inl (g _ _ (m _ (by simp)) h)) (r.sub s)
  | _, _, _, _, m, .dic h r, e => by
    have e' := Option.some.inj e
    subst e'
    exact .dic (g _ _ (m _ (by simp)) h) (r.sub s) rfl
  | _, _, _, _, m, .dit h r, e => by
    have e' := Option.some.inj e
    subst e'
    exact .dit (g _ _ (m _ (by simp)) h) (r.sub s) rfl
  | _, _, _, _, m, .nst (os := os) h r, e => by
    have e : (toPDs os).map PyData.list = some _ := e
    cases q : toPDs os with
    | none => rw [q] at e; cases e
    | some ds =>
      rw [q] at e
      have e' := Option.some.inj e
      subst e'
      exact .lst (.inl (g _ _ (m _ (by simp)) h)) (owns_fz s g gt (fun a z => m a (List.mem_cons_of_mem _ z)) r q)
  | _, _, _, _, m, .ntp (os := os) h hg r, e => by
    have e : (toPDs os).map PyData.tuple = some _ := e
    cases q : toPDs os with
    | none => rw [q] at e; cases e
    | some ds =>
      rw [q] at e
      have e' := Option.some.inj e
      subst e'
      exact .tup (.inl (gt _ _ (m _ (by simp)) h)) (owns_fz s g gt (fun a z => m a (List.mem_cons_of_mem _ z)) r q)
  | _, _, _, _, m, .ndc (os := os) h r, e => by
    have e : (toPDk os).map (fun ds => PyData.dict (ds.map kp)) = some _ := e
    cases q : toPDk os with
    | none => rw [q] at e; cases e
    | some ds =>
      rw [q] at e
      have e' := Option.some.inj e
      subst e'
      exact .dic (g _ _ (m _ (by simp)) h) (ownk_fz s g gt (fun a z => m a (List.mem_cons_of_mem _ z)) r q) rfl
  | _, _, _, _, _, .ins _ _, e => by cases e
  | _, _, _, _, _, .ktp _ _, e => by cases e
  | _, _, _, _, _, .exo _ _ _ _, e => by cases e
  | _, _, _, _, _, .cod, e => by cases e
  | _, _, _, _, _, .dnk _ _, e => by cases e
  | _, _, _, _, _, .ctp h n _ _ r, e => by
    have e' := Option.some.inj e
    subst e'
    exact .tup (.inr ⟨⟨_, s _ _ h⟩, n⟩) (r.sub s)
  | _, _, _, _, _, .dead, e => by cases e
theorem owns_fz {k : Kc} {F H G : Hp} {T : List Addr} (s : Same F G) (g : ∀ a u, a ∈ T → Rd H a u → Rd G a u) (gt : ∀ a vs, a ∈ T → H a = some (.tup vs) → G a = some (.tup vs)) : ∀ {v : List V} {o : List O} {S : List Addr} {d : List PD}, (∀ a ∈ S, a ∈ T) → Owns k F H v o S → toPDs o = some d → Reps k.K G v d
  | _, _, _, _, _, .nil, e => by
    have e' := Option.some.inj e
    subst e'
    exact .nil
  | _, _, _, _, m, .cons (o := o) (os := os) h r, e => by
    unfold toPDs at e
    cases q1 : toPD o with
    | none => rw [q1] at e; cases e
    | some d =>
      cases q2 : toPDs os with
      | none => rw [q1, q2] at e; cases e
      | some ds =>
        rw [q1, q2] at e
        have e' := Option.some.inj e
        subst e'
        exact .cons (own_fz s g gt (fun a z => m a (List.mem_append_left _ z)) h q1) (owns_fz s g gt (fun a z => m a (List.mem_append_right _ z)) r q2)
theorem ownk_fz {k : Kc} {F H G : Hp} {T : List Addr} (s : Same F G) (g : ∀ a u, a ∈ T → Rd H a u → Rd G a u) (gt : ∀ a vs, a ∈ T → H a = some (.tup vs) → G a = some (.tup vs)) : ∀ {v : List (Key × V)} {o : List (Key × O)} {S : List Addr} {d : List (Key × PD)}, (∀ a ∈ S, a ∈ T) → OwnK k F H v o S → toPDk o = some d → RepK k.K G v d
  | _, _, _, _, _, .nil, e => by
    have e' := Option.some.inj e
    subst e'
    exact .nil
  | _, _, _, _, m, .cons (o := o) (os := os) h r, e => by
    unfold toPDk at e
    cases q1 : toPD o with
    | none => rw [q1] at e; cases e
    | some d =>
      cases q2 : toPDk os with
      | none => rw [q1, q2] at e; cases e
      | some ds =>
        rw [q1, q2] at e
        have e' := Option.some.inj e
        subst e'
        exact .cons (own_fz s g gt (fun a z => m a (List.mem_append_left _ z)) h q1) (ownk_fz s g gt (fun a z => m a (List.mem_append_right _ z)) r q2)
end
theorem Own.freeze {k : Kc} {F H : Hp} {v : V} {o : O} {T : List Addr} {d : PD} (h : Own k F H v o T) (off : ∀ a ∈ T, F a = none) (e : toPD o = some d) : Rep k.K (over F H T) v d :=
  own_fz (over_sub off) (fun a u m r => over_rd m r) (fun a vs m r => by rw [over_in m]; exact r) (fun _ m => m) h e

/-! ### frozen data at the heap itself (locks looked through) -/
mutual
theorem Rep.le {K : Frag} {F H : Hp} (s : FLe F H) : ∀ {v : V} {d : PD}, Rep K F v d → Rep K H v d
  | _, _, .non => .non
  | _, _, .bl b => .bl b
  | _, _, .int i => .int i
  | _, _, .str x => .str x
  | _, _, .lst h r => .lst (sqL_le s h) (Reps.le s r)
  | _, _, .tup h r => .tup (tup_le s h) (Reps.le s r)
  | _, _, .dic h r e => .dic (rd_le s h) (RepK.le s r) e
  | _, _, .dit h r e => .dit (rd_le s h) (RepT.le s r) e
theorem Reps.le {K : Frag} {F H : Hp} (s : FLe F H) : ∀ {v : List V} {d : List PD}, Reps K F v d → Reps K H v d
  | _, _, .nil => .nil
  | _, _, .cons h r => .cons (Rep.le s h) (Reps.le s r)
theorem RepK.le {K : Frag} {F H : Hp} (s : FLe F H) : ∀ {v : List (Key × V)} {d : List (Key × PD)}, RepK K F v d → RepK K H v d
  | _, _, .nil => .nil
  | _, _, .cons h r => .cons (Rep.le s h) (RepK.le s r)
theorem RepT.le {K : Frag} {F H : Hp} (s : FLe F H) : ∀ {v : List (List Key × V)} {d : List (List Key × PD)}, RepT K F v d → RepT K H v d
  | _, _, .nil => .nil
  | _, _, .cons h r => .cons (Rep.le s h) (RepT.le s r)
end
mutual
theorem own_at {k : Kc} {F H : Hp} (s : FLe F H) : ∀ {v : V} {o : O} {S : List Addr} {d : PD}, Own k F H v o S → toPD o = some d → Rep k.K H v d
  | _, _, _, _, .fz h, e => by
    have e' := Option.some.inj e
    subst e'
    exact h.le s
  | _, _, _, _, .lst h r, e => by
    have e' := Option.some.inj e
    subst e'
    exact .lst (.inl h) (r.le s)
  | _, _, _, _, .dic h r, e => by
    have e' := Option.some.inj e
    subst e'
    exact .dic h (r.le s) rfl
  | _, _, _, _, .dit h r, e => by
    have e' := Option.some.inj e
    subst e'
    exact .dit h (r.le s) rfl
  | _, _, _, _, .nst (os := os) h r, e => by
    have e : (toPDs os).map PyData.list = some _ := e
    cases q : toPDs os with
    | none => rw [q] at e; cases e
    | some ds =>
      rw [q] at e
      have e' := Option.some.inj e
      subst e'
      exact .lst (.inl h) (owns_at s r q)
  | _, _, _, _, .ntp (os := os) h hg r, e => by
    have e : (toPDs os).map PyData.tuple = some _ := e
    cases q : toPDs os with
    | none => rw [q] at e; cases e
    | some ds =>
      rw [q] at e
      have e' := Option.some.inj e
      subst e'
      exact .tup (.inl h) (owns_at s r q)
  | _, _, _, _, .ndc (os := os) h r, e => by
    have e : (toPDk os).map (fun ds => PyData.dict (ds.map kp)) = some _ := e
    cases q : toPDk os with
    | none => rw [q] at e; cases e
    | some ds =>
      rw [q] at e
      have e' := Option.some.inj e
      subst e'
      exact .dic h (ownk_at s r q) rfl
  | _, _, _, _, .ins _ _, e => by cases e
  | _, _, _, _, .ktp _ _, e => by cases e
  | _, _, _, _, .exo _ _ _ _, e => by cases e
  | _, _, _, _, .cod, e => by cases e
  | _, _, _, _, .dnk _ _, e => by cases e
  | _, _, _, _, .ctp h n _ _ r, e => by
    have e' := Option.some.inj e
    subst e'
    exact .tup (tup_le s (.inr ⟨⟨_, h⟩, n⟩)) (r.le s)
  | _, _, _, _, .dead, e => by cases e
theorem owns_at {k : Kc} {F H : Hp} (s : FLe F H) : ∀ {v : List V} {o : List O} {S : List Addr} {d : List PD}, Owns k F H v o S → toPDs o = some d → Reps k.K H v d
  | _, _, _, _, .nil, e => by
    have e' := Option.some.inj e
    subst e'
    exact .nil
  | _, _, _, _, .cons (o := o) (os := os) h r, e => by
    unfold toPDs at e
    cases q1 : toPD o with
    | none => rw [q1] at e; cases e
    | some d =>
      cases q2 : toPDs os with
      | none => rw [q1, q2] at e; cases e
      | some ds =>
        rw [q1, q2] at e
        have e' := Option.some.inj e
        subst e'
        exact .cons (own_at s h q1) (owns_at s r q2)
theorem ownk_at {k : Kc} {F H : Hp} (s : FLe F H) : ∀ {v : List (Key × V)} {o : List (Key × O)} {S : List Addr} {d : List (Key × PD)}, OwnK k F H v o S → toPDk o = some d → RepK k.K H v d
  | _, _, _, _, .nil, e => by
    have e' := Option.some.inj e
    subst e'
    exact .nil
  | _, _, _, _, .cons (o := o) (os := os) h r, e => by
    unfold toPDk at e
    cases q1 : toPD o with
    | none => rw [q1] at e; cases e
    | some d =>
      cases q2 : toPDk os with
      | none => rw [q1, q2] at e; cases e
      | some ds =>
        rw [q1, q2] at e
        have e' := Option.some.inj e
        subst e'
        exact .cons (own_at s h q1) (ownk_at s r q2)
end
theorem Vw.at_ {k : Kc} {F H : Hp} {S : List Addr} {v : V} {o : O} {d : PD} (h : Vw k F H S v o) (s : FLe F H) (e : toPD o = some d) : Rep k.K H v d :=
  let ⟨_, _, q⟩ := h
  own_at s q e
/-- sequences -/
def seqL : O → Option (List PD)
  | .fz (.list ds) => some ds
  | .lst ds => some ds
  | _ => none
def seqT : O → Option (List PD)
  | .fz (.tuple ds) => some ds
  | .ctp ds => some ds
  | _ => none
theorem Vw.seqL {k : Kc} {F H : Hp} {S : List Addr} {v : V} {o : O} {ds : List PD} (h : Vw k F H S v o) (s : FLe F H) (e : FM.seqL o = some ds) : ∃ a vs, v = .ref a ∧ SqL k.K H a vs ∧ Reps k.K F vs ds := by
  obtain ⟨T, _, q⟩ := h
  cases q with
  | fz r =>
    cases r with
    | lst h1 h2 =>
      have e' := Option.some.inj e
      subst e'
      exact ⟨_, _, rfl, sqL_le s h1, h2⟩
    | dic h1 h2 h3 => subst h3; cases e
    | dit h1 h2 h3 => subst h3; cases e
    | _ => cases e
  | lst h1 h2 =>
    have e' := Option.some.inj e
    subst e'
    exact ⟨_, _, rfl, .inl h1, h2⟩
  | _ => cases e
theorem Vw.seqT {k : Kc} {F H : Hp} {S : List Addr} {v : V} {o : O} {ds : List PD} (h : Vw k F H S v o) (s : FLe F H) (e : FM.seqT o = some ds) : ∃ a vs, v = .ref a ∧ RdT H a vs ∧ Reps k.K F vs ds := by
  obtain ⟨T, _, q⟩ := h
  cases q with
  | fz r =>
    cases r with
    | tup h1 h2 =>
      have e' := Option.some.inj e
      subst e'
      exact ⟨_, _, rfl, tup_le s h1, h2⟩
    | dic h1 h2 h3 => subst h3; cases e
    | dit h1 h2 h3 => subst h3; cases e
    | _ => cases e
  | ctp h1 n _ _ h2 =>
    have e' := Option.some.inj e
    subst e'
    exact ⟨_, _, rfl, tup_le s (.inr ⟨⟨_, h1⟩, n⟩), h2⟩
  | _ => cases e
/-- a tuple that is read: a new one, or the module's -/
def seqR : O → Option (List PD)
  | .fz (.tuple ds) => some ds
  | .ktp ds => some ds
  | .ctp ds => some ds
  | _ => none
theorem Vw.seqR {k : Kc} {F H : Hp} {S : List Addr} {v : V} {o : O} {ds : List PD} (h : Vw k F H S v o) (s : FLe F H) (e : FM.seqR o = some ds) : ∃ a vs, v = .ref a ∧ SqT k.K H a vs ∧ Reps k.K F vs ds := by
  obtain ⟨T, _, q⟩ := h
  cases q with
  | fz r =>
    cases r with
    | tup h1 h2 =>
      have e' := Option.some.inj e
      subst e'
      exact ⟨_, _, rfl, (tup_le s h1).sq, h2⟩
    | dic h1 h2 h3 => subst h3; cases e
    | dit h1 h2 h3 => subst h3; cases e
    | _ => cases e
  | ktp h1 h2 =>
    have e' := Option.some.inj e
    subst e'
    exact ⟨_, _, rfl, h1 H, h2⟩
  | ctp h1 n _ _ h2 =>
    have e' := Option.some.inj e
    subst e'
    exact ⟨_, _, rfl, (tup_le s (.inr ⟨⟨_, h1⟩, n⟩)).sq, h2⟩
  | _ => cases e
theorem Vw.int {k : Kc} {F H : Hp} {S : List Addr} {v : V} {i : Int} (h : Vw k F H S v (.fz (.int i))) : v = .int i := by
  cases h.rep with
  | int => rfl
  | dic _ _ e => cases e
  | dit _ _ e => cases e
theorem Vw.str {k : Kc} {F H : Hp} {S : List Addr} {v : V} {i : Str} (h : Vw k F H S v (.fz (.str i))) : v = .str i := by
  cases h.rep with
  | str => rfl
  | dic _ _ e => cases e
  | dit _ _ e => cases e
theorem Vw.bl {k : Kc} {F H : Hp} {S : List Addr} {v : V} {i : Bool} (h : Vw k F H S v (.fz (.bool i))) : v = .bl i := by
  cases h.rep with
  | bl => rfl
  | dic _ _ e => cases e
  | dit _ _ e => cases e
theorem Vw.non {k : Kc} {F H : Hp} {S : List Addr} {v : V} (h : Vw k F H S v (.fz .none)) : v = .non := by
  cases h.rep with
  | non => rfl
  | dic _ _ e => cases e
  | dit _ _ e => cases e
theorem Reps.length {K : Frag} {F : Hp} : ∀ {vs : List V} {ds : List PD}, Reps K F vs ds → vs.length = ds.length
  | _, _, .nil => rfl
  | _, _, .cons _ r => congrArg (· + 1) (Reps.length r)
theorem Reps.append {K : Frag} {F : Hp} : ∀ {vs ws : List V} {ds es : List PD}, Reps K F vs ds → Reps K F ws es → Reps K F (vs ++ ws) (ds ++ es)
  | _, _, _, _, .nil, s => s
  | _, _, _, _, .cons h r, s => .cons h (Reps.append r s)
theorem Reps.get {K : Frag} {F : Hp} : ∀ {vs : List V} {ds : List PD} {i : Nat} {d : PD}, Reps K F vs ds → ds[i]? = some d → ∃ v, vs[i]? = some v ∧ Rep K F v d
  | _, _, _, _, .nil, e => by simp at e
  | _, _, 0, _, .cons h r, e => by
    have e' : _ = _ := Option.some.inj (by simpa using e)
    subst e'
    exact ⟨_, rfl, h⟩
  | _, _, i + 1, _, .cons h r, e => by
    obtain ⟨v, q, w⟩ := Reps.get (i := i) r (by simpa using e)
    exact ⟨v, by simpa using q, w⟩
theorem Reps.take {K : Frag} {F : Hp} : ∀ {vs : List V} {ds : List PD} (n : Nat), Reps K F vs ds → Reps K F (vs.take n) (ds.take n)
  | _, _, 0, _ => by simp only [List.take_zero]; exact .nil
  | _, _, n + 1, .nil => by simp only [List.take_nil]; exact .nil
  | _, _, n + 1, .cons h r => .cons h (Reps.take n r)
theorem Reps.drop {K : Frag} {F : Hp} : ∀ {vs : List V} {ds : List PD} (n : Nat), Reps K F vs ds → Reps K F (vs.drop n) (ds.drop n)
  | _, _, 0, r => r
  | _, _, n + 1, .nil => by simp only [List.drop_nil]; exact .nil
  | _, _, n + 1, .cons h r => Reps.drop n r
theorem Reps.set {K : Frag} {F : Hp} {v : V} {d : PD} (q : Rep K F v d) : ∀ {vs : List V} {ds : List PD} (n : Nat), Reps K F vs ds → Reps K F (vs.set n v) (ds.set n d)
  | _, _, _, .nil => .nil
  | _, _, 0, .cons h r => .cons q r
  | _, _, n + 1, .cons h r => .cons h (Reps.set q n r)
theorem Reps.eraseIdx {K : Frag} {F : Hp} : ∀ {vs : List V} {ds : List PD} (n : Nat), Reps K F vs ds → Reps K F (vs.eraseIdx n) (ds.eraseIdx n)
  | _, _, _, .nil => by simp only [List.eraseIdx_nil]; exact .nil
  | _, _, 0, .cons h r => r
  | _, _, n + 1, .cons h r => .cons h (Reps.eraseIdx n r)
end FM
namespace FM
open PySem L2

theorem rd_there {H : Hp} {a : Addr} {u : HO} (h : Rd H a u) (hu : ¬ gnd u := by rintro ⟨z, e⟩; cases e) : Th H a := by
  rcases h with h | ⟨o, h⟩
  · refine ⟨by rw [h]; simp, fun w g e => ?_⟩
    rw [h] at e
    cases e
    exact hu g
  · refine ⟨by rw [h]; simp, fun w g e => ?_⟩
    rw [h] at e
    cases e
    obtain ⟨z, e⟩ := g
    cases e
mutual
theorem Own.there {k : Kc} {F H : Hp} : ∀ {v : V} {o : O} {S : List Addr}, Own k F H v o S → ∀ a ∈ S, Th H a
  | _, _, _, .fz _, a, m => by cases m
  | _, _, _, .lst h _, a, m => by rw [List.mem_singleton.mp m]; exact rd_there h
  | _, _, _, .dic h _, a, m => by rw [List.mem_singleton.mp m]; exact rd_there h
  | _, _, _, .dit h _, a, m => by rw [List.mem_singleton.mp m]; exact rd_there h
  | _, _, _, .nst h r, a, m => by
    rcases List.mem_cons.mp m with e | m
    · rw [e]; exact rd_there h
    · exact Owns.there r a m
  | _, _, _, .ntp h hg r, a, m => by
    rcases List.mem_cons.mp m with e | m
    · subst e
      refine ⟨by rw [h]; simp, fun w g e => ?_⟩
      rw [h] at e
      cases e
      obtain ⟨z, e⟩ := g
      cases e
      exact hg z rfl
    · exact Owns.there r a m
  | _, _, _, .ndc h r, a, m => by
    rcases List.mem_cons.mp m with e | m
    · rw [e]; exact rd_there h
    · exact OwnK.there r a m
  | _, _, _, .ins h r, a, m => by
    rcases List.mem_cons.mp m with e | m
    · rw [e]; exact rd_there (.inl h)
    · exact OwnF.there r a m
  | _, _, _, .ktp _ _, a, m => by cases m
  | _, _, _, .ctp _ _ _ _ _, a, m => by cases m
  | _, _, _, .exo _ _ _ _, a, m => by cases m
  | _, _, _, .cod, a, m => by cases m
  | _, _, _, .dnk h r, a, m => by
    rcases List.mem_cons.mp m with e | m
    · rw [e]
      refine ⟨by rw [h]; simp, fun w g e => ?_⟩
      rw [h] at e
      cases e
      obtain ⟨z, e⟩ := g
      cases e
    · exact OwnN.there r a m
  | _, _, _, .dead, a, m => by cases m
theorem Owns.there {k : Kc} {F H : Hp} : ∀ {v : List V} {o : List O} {S : List Addr}, Owns k F H v o S → ∀ a ∈ S, Th H a
  | _, _, _, .nil, a, m => by cases m
  | _, _, _, .cons h r, a, m => (List.mem_append.mp m).elim (Own.there h a) (Owns.there r a)
theorem OwnK.there {k : Kc} {F H : Hp} : ∀ {v : List (Key × V)} {o : List (Key × O)} {S : List Addr}, OwnK k F H v o S → ∀ a ∈ S, Th H a
  | _, _, _, .nil, a, m => by cases m
  | _, _, _, .cons h r, a, m => (List.mem_append.mp m).elim (Own.there h a) (OwnK.there r a)
theorem OwnF.there {k : Kc} {F H : Hp} : ∀ {v : List (Str × V)} {o : List (Str × O)} {S : List Addr}, OwnF k F H v o S → ∀ a ∈ S, Th H a
  | _, _, _, .nil, a, m => by cases m
  | _, _, _, .cons h r, a, m => (List.mem_append.mp m).elim (Own.there h a) (OwnF.there r a)
theorem OwnN.there {k : Kc} {F H : Hp} : ∀ {v : List (NK × Addr × V)} {o : List (NK × O)} {S : List Addr}, OwnN k F H v o S → ∀ a ∈ S, Th H a
  | _, _, _, .nil, a, m => by cases m
  | _, _, _, .cons n h r, a, m => (List.mem_append.mp m).elim (Own.there h a) (OwnN.there r a)
end
theorem Envs.there {k : Kc} {F H : Hp} : ∀ {σ : L2.St} {ρ : List O} {S : List Addr}, Envs k F H σ ρ S → ∀ a ∈ S, Th H a
  | _, _, _, .nil, a, m => by cases m
  | _, _, _, .dead r, a, m => Envs.there r a m
  | _, _, _, .cons h r, a, m => (List.mem_append.mp m).elim (Own.there h a) (Envs.there r a)

/-- the state of a quiet evaluation -/
structure Qs (k : Kc) (F H : Hp) (σ : L2.St) (ρ : List O) (S : List Addr) : Prop where
  fle : FLe F H
  env : Envs k F H σ ρ S
  off : ∀ a ∈ S, F a = none
theorem Xt.off {F H F' H' : Hp} (x : Xt F H F' H') {a : Addr} (h : F a = none) (t : Th H a) : F' a = none := by
  cases e : F' a with
  | none => rfl
  | some u =>
    rcases x.fresh a u e with q | q | ⟨g, q⟩
    · rw [h] at q; cases q
    · exact absurd q t.1
    · exact absurd q (t.2 u g)
theorem Qs.xt {k : Kc} {F H F' H' : Hp} {σ : L2.St} {ρ : List O} {S : List Addr} (q : Qs k F H σ ρ S) (x : Xt F H F' H') : Qs k F' H' σ ρ S :=
  ⟨x.fle, q.env.xt x, fun a m => x.off (q.off a m) (q.env.there a m)⟩

/-! ### quiet readings -/
abbrev QE := List O → Option O
def TEv (k : Kc) (t : TE) (q : QE) : Prop := ∀ (F H : Hp) (σ : L2.St) (ρ : List O) (S : List Addr) (o : O) (Q : VK), Qs k F H σ ρ S → q ρ = some o → (∀ v F' H', Xt F H F' H' → Vw k F' H' S v o → Q v H') → t σ H Q
def TTv (k : Kc) (t : TT) (q : List O → Option Bool) : Prop := ∀ (F H : Hp) (σ : L2.St) (ρ : List O) (S : List Addr) (b : Bool) (Q : Bool → Hp → Prop), Qs k F H σ ρ S → q ρ = some b → (∀ F' H', Xt F H F' H' → Q b H') → t σ H Q
def TAv (k : Kc) (t : TA) (q : List O → Option (List O)) : Prop := ∀ (F H : Hp) (σ : L2.St) (ρ : List O) (S : List Addr) (os : List O) (Q : List V → Hp → Prop), Qs k F H σ ρ S → q ρ = some os → (∀ vs F' H', Xt F H F' H' → Vws k F' H' S vs os → Q vs H') → t σ H Q
/-- a new object of one's own -/
structure Fresh (F' H H' : Hp) (T : List Addr) : Prop where
  nd : T.Nodup
  new : ∀ a ∈ T, H a = none
  off : ∀ a ∈ T, F' a = none
  nofz : ∀ a ∈ T, ∀ o u, H' a ≠ some (.frz o u)
def TEn (k : Kc) (t : TE) (q : QE) : Prop := ∀ (F H : Hp) (σ : L2.St) (ρ : List O) (S : List Addr) (o : O) (Q : VK), Qs k F H σ ρ S → q ρ = some o → (∀ v F' H' T, Xt F H F' H' → Own k F' H' v o T → Fresh F' H H' T → Q v H') → t σ H Q
/-- operations by views -/
def OpV (k : Kc) (r : R2) (f : O → O → Option O) : Prop := ∀ (F H : Hp) (S : List Addr) (x y : V) (ox oy o : O) (Q : VK), FLe F H → (∀ a ∈ S, F a = none) → (∀ a ∈ S, Th H a) → Vw k F H S x ox → Vw k F H S y oy → f ox oy = some o → (∀ v F' H', Xt F H F' H' → Vw k F' H' S v o → Q v H') → r x y H Q
def UnV (k : Kc) (r : V → Hp → VK → Prop) (f : O → Option O) : Prop := ∀ (F H : Hp) (S : List Addr) (x : V) (ox o : O) (Q : VK), FLe F H → (∀ a ∈ S, F a = none) → (∀ a ∈ S, Th H a) → Vw k F H S x ox → f ox = some o → (∀ v F' H', Xt F H F' H' → Vw k F' H' S v o → Q v H') → r x H Q
def CbV (k : Kc) (r : List V → Hp → VK → Prop) (f : List O → Option O) : Prop := ∀ (F H : Hp) (S : List Addr) (xs : List V) (os : List O) (o : O) (Q : VK), FLe F H → (∀ a ∈ S, F a = none) → (∀ a ∈ S, Th H a) → Vws k F H S xs os → f os = some o → (∀ v F' H', Xt F H F' H' → Vw k F' H' S v o → Q v H') → r xs H Q
def CbN (k : Kc) (r : List V → Hp → VK → Prop) (f : List O → Option O) : Prop := ∀ (F H : Hp) (S : List Addr) (xs : List V) (os : List O) (o : O) (Q : VK), FLe F H → (∀ a ∈ S, F a = none) → (∀ a ∈ S, Th H a) → Vws k F H S xs os → f os = some o → (∀ v F' H' T, Xt F H F' H' → Own k F' H' v o T → Fresh F' H H' T → Q v H') → r xs H Q

/-! ### the mirror's words -/
def qVar (i : Nat) : QE := fun ρ => match ρ[i]? with
  | some .dead => none
  | r => r
def qC (d : PD) : QE := fun _ => some (.fz d)
def qOp (f : O → O → Option O) (a b : QE) : QE := fun ρ => match a ρ with
  | none => none
  | some x => match b ρ with
    | none => none
    | some y => f x y
def qUn (f : O → Option O) (a : QE) : QE := fun ρ => match a ρ with
  | none => none
  | some x => f x
def qNil : List O → Option (List O) := fun _ => some []
def qCons (a : QE) (r : List O → Option (List O)) : List O → Option (List O) := fun ρ => match a ρ with
  | none => none
  | some x => match r ρ with
    | none => none
    | some xs => some (x :: xs)
def qCb (f : List O → Option O) (r : List O → Option (List O)) : QE := fun ρ => match r ρ with
  | none => none
  | some xs => f xs
def qB (a : QE) : List O → Option Bool := fun ρ => match a ρ with
  | some (.fz (.bool b)) => some b
  | _ => none
def qAnd (a b : List O → Option Bool) : List O → Option Bool := fun ρ => match a ρ with
  | some true => b ρ
  | r => r
def qOr (a b : List O → Option Bool) : List O → Option Bool := fun ρ => match a ρ with
  | some false => b ρ
  | r => r
def qAndV (a b : QE) : QE := fun ρ => match a ρ with
  | some (.fz (.bool true)) => b ρ
  | some (.fz (.bool false)) => some (.fz (.bool false))
  | _ => none
def qIf (c : List O → Option Bool) (a b : QE) : QE := fun ρ => match c ρ with
  | some true => a ρ
  | some false => b ρ
  | none => none
def qFz (a : QE) : QE := fun ρ => match a ρ with
  | some o => (toPD o).map .fz
  | none => none

section
variable {k : Kc} {ta tb te : TE} {t u : TT} {tl : TA} {qa qb : QE} {ca cb : List O → Option Bool} {qs : List O → Option (List O)}
theorem tev_var {i : Nat} : TEv k (tVar i) (qVar i) := by
  intro F H σ ρ S o Q q e h
  have e1 : ρ[i]? = some o ∧ o ≠ .dead := by
    unfold qVar at e
    split at e
    · cases e
    · rename_i hne
      refine ⟨e, fun z => hne ?_⟩
      rw [e, z]
  rcases q.env.get e1.1 with z | ⟨v, hv, w⟩
  · exact absurd z e1.2
  · exact ⟨v, hv, h v F H (Xt.refl q.fle) w⟩
theorem tev_c {v : V} {d : PD} (r : ∀ F, Rep k.K F v d) : TEv k (tC v) (qC d) := by
  intro F H σ ρ S o Q q e h
  have e' := Option.some.inj e
  subst e'
  exact h v F H (Xt.refl q.fle) (.fz (r F))
theorem tev_op {r : R2} {f : O → O → Option O} (ha : TEv k ta qa) (hb : TEv k tb qb) (hr : OpV k r f) : TEv k (tOp r ta tb) (qOp f qa qb) := by
  intro F H σ ρ S o Q q e h
  unfold qOp at e
  cases e1 : qa ρ with
  | none => rw [e1] at e; cases e
  | some x =>
    rw [e1] at e
    cases e2 : qb ρ with
    | none => simp only [e2] at e; cases e
    | some y =>
      simp only [e2] at e
      refine ha F H σ ρ S x _ q e1 fun v F1 H1 x1 w1 => ?_
      refine hb F1 H1 σ ρ S y _ (q.xt x1) e2 fun w F2 H2 x2 w2 => ?_
      have q2 := (q.xt x1).xt x2
      exact hr F2 H2 S v w x y o Q x2.fle q2.off q2.env.there (w1.xt x2) w2 e fun z F3 H3 x3 w3 => h z F3 H3 ((x1.trans x2).trans x3) w3
theorem tev_un {r : V → Hp → VK → Prop} {f : O → Option O} (ha : TEv k ta qa) (hr : UnV k r f) : TEv k (tUn r ta) (qUn f qa) := by
  intro F H σ ρ S o Q q e h
  unfold qUn at e
  cases e1 : qa ρ with
  | none => rw [e1] at e; cases e
  | some x =>
    rw [e1] at e
    refine ha F H σ ρ S x _ q e1 fun v F1 H1 x1 w1 => ?_
    have q2 := q.xt x1
    exact hr F1 H1 S v x o Q x1.fle q2.off q2.env.there w1 e fun z F3 H3 x3 w3 => h z F3 H3 (x1.trans x3) w3
theorem tav_nil : TAv k tNil qNil := by
  intro F H σ ρ S os Q q e h
  have e' := Option.some.inj e
  subst e'
  exact h [] F H (Xt.refl q.fle) .nil
theorem tav_cons (ha : TEv k te qa) (hr : TAv k tl qs) : TAv k (tCons te tl) (qCons qa qs) := by
  intro F H σ ρ S os Q q e h
  unfold qCons at e
  cases e1 : qa ρ with
  | none => rw [e1] at e; cases e
  | some x =>
    rw [e1] at e
    cases e2 : qs ρ with
    | none => simp only [e2] at e; cases e
    | some xs =>
      simp only [e2] at e
      have e' := Option.some.inj e
      subst e'
      refine ha F H σ ρ S x _ q e1 fun v F1 H1 x1 w1 => ?_
      exact hr F1 H1 σ ρ S xs _ (q.xt x1) e2 fun vs F2 H2 x2 w2 => h _ F2 H2 (x1.trans x2) (.cons (w1.xt x2) w2)
theorem tev_cb {r : List V → Hp → VK → Prop} {f : List O → Option O} (ha : TAv k tl qs) (hr : CbV k r f) : TEv k (tCB r tl) (qCb f qs) := by
  intro F H σ ρ S o Q q e h
  unfold qCb at e
  cases e1 : qs ρ with
  | none => rw [e1] at e; cases e
  | some x =>
    rw [e1] at e
    refine ha F H σ ρ S x _ q e1 fun v F1 H1 x1 w1 => ?_
    have q2 := q.xt x1
    exact hr F1 H1 S v x o Q x1.fle q2.off q2.env.there w1 e fun z F3 H3 x3 w3 => h z F3 H3 (x1.trans x3) w3
theorem ten_cb {r : List V → Hp → VK → Prop} {f : List O → Option O} (ha : TAv k tl qs) (hr : CbN k r f) : TEn k (tCB r tl) (qCb f qs) := by
  intro F H σ ρ S o Q q e h
  unfold qCb at e
  cases e1 : qs ρ with
  | none => rw [e1] at e; cases e
  | some x =>
    rw [e1] at e
    refine ha F H σ ρ S x _ q e1 fun v F1 H1 x1 w1 => ?_
    have q2 := q.xt x1
    exact hr F1 H1 S v x o Q x1.fle q2.off q2.env.there w1 e fun z F3 H3 T x3 w3 fr => h z F3 H3 T (x1.trans x3) w3 ⟨fr.nd, fun a m => none_back x1.ex (fr.new a m), fr.off, fr.nofz⟩
theorem ttv_test (ha : TEv k te qa) : TTv k (tTest te) (qB qa) := by
  intro F H σ ρ S b Q q e h
  unfold qB at e
  split at e
  · rename_i c e1
    have e' := Option.some.inj e
    subst e'
    refine ha F H σ ρ S _ _ q e1 fun v F1 H1 x1 w1 => ?_
    exact ⟨_, w1.bl, h F1 H1 x1⟩
  · cases e
theorem ttv_B (ha : TEv k te qa) : TTv k (tB te) (qB qa) := by
  intro F H σ ρ S b Q q e h
  unfold qB at e
  split at e
  · rename_i c e1
    have e' := Option.some.inj e
    subst e'
    refine ha F H σ ρ S _ _ q e1 fun v F1 H1 x1 w1 => ?_
    exact ⟨_, w1.bl, h F1 H1 x1⟩
  · cases e
theorem ttv_and (ha : TTv k t ca) (hb : TTv k u cb) : TTv k (tAnd t u) (qAnd ca cb) := by
  intro F H σ ρ S b Q q e h
  unfold qAnd at e
  cases e1 : ca ρ with
  | none => rw [e1] at e; cases e
  | some c =>
    rw [e1] at e
    refine ha F H σ ρ S c _ q e1 fun F1 H1 x1 => ?_
    cases c with
    | true =>
      rw [if_pos rfl]
      exact hb F1 H1 σ ρ S b Q (q.xt x1) e fun F2 H2 x2 => h F2 H2 (x1.trans x2)
    | false =>
      have e' := Option.some.inj e
      subst e'
      rw [if_neg (by decide)]
      exact h F1 H1 x1
theorem ttv_or (ha : TTv k t ca) (hb : TTv k u cb) : TTv k (tOr t u) (qOr ca cb) := by
  intro F H σ ρ S b Q q e h
  unfold qOr at e
  cases e1 : ca ρ with
  | none => rw [e1] at e; cases e
  | some c =>
    rw [e1] at e
    refine ha F H σ ρ S c _ q e1 fun F1 H1 x1 => ?_
    cases c with
    | false =>
      rw [if_neg (by decide)]
      exact hb F1 H1 σ ρ S b Q (q.xt x1) e fun F2 H2 x2 => h F2 H2 (x1.trans x2)
    | true =>
      have e' := Option.some.inj e
      subst e'
      rw [if_pos rfl]
      exact h F1 H1 x1
theorem tev_andV (ha : TEv k ta qa) (hb : TEv k tb qb) : TEv k (tAndV ta tb) (qAndV qa qb) := by
  intro F H σ ρ S o Q q e h
  unfold qAndV at e
  split at e
  · rename_i e1
    refine ha F H σ ρ S _ _ q e1 fun v F1 H1 x1 w1 => ⟨true, w1.bl, ?_⟩
    rw [if_pos rfl]
    exact hb F1 H1 σ ρ S o Q (q.xt x1) e fun w F2 H2 x2 w2 => h w F2 H2 (x1.trans x2) w2
  · rename_i e1
    have e' := Option.some.inj e
    subst e'
    refine ha F H σ ρ S _ _ q e1 fun v F1 H1 x1 w1 => ⟨false, w1.bl, ?_⟩
    rw [if_neg (by decide)]
    exact h _ F1 H1 x1 (.fz (.bl false))
  · cases e
theorem tev_if (hc : TTv k t ca) (ha : TEv k ta qa) (hb : TEv k tb qb) : TEv k (tIf t ta tb) (qIf ca qa qb) := by
  intro F H σ ρ S o Q q e h
  unfold qIf at e
  split at e
  · rename_i e1
    refine hc F H σ ρ S _ _ q e1 fun F1 H1 x1 => ?_
    rw [if_pos rfl]
    exact ha F1 H1 σ ρ S o Q (q.xt x1) e fun w F2 H2 x2 w2 => h w F2 H2 (x1.trans x2) w2
  · rename_i e1
    refine hc F H σ ρ S _ _ q e1 fun F1 H1 x1 => ?_
    rw [if_neg (by decide)]
    exact hb F1 H1 σ ρ S o Q (q.xt x1) e fun w F2 H2 x2 w2 => h w F2 H2 (x1.trans x2) w2
  · cases e
/-- what is new may be frozen -/
theorem tev_n (ha : TEn k te qa) : TEv k te (qFz qa) := by
  intro F H σ ρ S o Q q e h
  unfold qFz at e
  cases e1 : qa ρ with
  | none => rw [e1] at e; cases e
  | some x =>
    rw [e1] at e
    have e : (toPD x).map O.fz = some o := e
    cases e2 : toPD x with
    | none => rw [e2] at e; cases e
    | some d =>
      rw [e2] at e
      have e' := Option.some.inj e
      subst e'
      refine ha F H σ ρ S x _ q e1 fun v F1 H1 T x1 w1 fr => ?_
      refine h v (over F1 H1 T) H1 ⟨x1.ex, x1.sub.trans (over_sub fr.off), over_le x1.fle, fun a u z => ?_⟩ (.fz (w1.freeze fr.off e2))
      rcases over_fresh z with z | z
      · exact x1.fresh a u z
      · exact .inr (.inl (fr.new a z))
end
end FM
namespace FM
open PySem L2 PyProof.Rows

/-! ### data, by the library's own reading -/
mutual
theorem Rep.dp {K : Frag} {H : Hp} : ∀ {v : V} {d : PD}, Rep K H v d → d.canLay0 = true → Dp K H v d
  | _, _, .non, _ => .non
  | _, _, .bl b, _ => .bl b
  | _, _, .int i, _ => .int i
  | _, _, .str x, _ => .str x
  | _, _, .lst h r, c => .lst h (Reps.dp r (by simpa [PyData.canLay0] using c))
  | _, _, .tup h r, c => .tup h.sq (Reps.dp r (by simpa [PyData.canLay0] using c))
  | _, _, .dic h r e, c => by subst e; simp [PyData.canLay0] at c
  | _, _, .dit h r e, c => by subst e; simp [PyData.canLay0] at c
theorem Reps.dp {K : Frag} {H : Hp} : ∀ {v : List V} {d : List PD}, Reps K H v d → PyData.canLayAll0 d = true → DpAll K H v d
  | _, _, .nil, _ => .nil
  | _, _, .cons h r, c => by
    have c' : _ ∧ _ := Bool.and_eq_true_iff.mp (by simpa only [PyData.canLayAll0] using c)
    exact .cons (Rep.dp h c'.1) (Reps.dp r c'.2)
end

theorem list_mulW (l : Addr) (items : Array Value) (n : Nat) (dd : Option Addr) (sl : Array (Option Value)) (x : Int) (u : Tok) (hc0 : ¬(!Builtin.List.listFitsIndex x) = true) (hc1 : ¬items.size * x.toNat > (2 ^ 63 - 1) / 8) (hc2 : ¬Builtin.List.listTooLong (items.size * x.toNat) = true) :
    Meets (Builtin.«list.__mul__» ⟨[.ref l, .int x u], []⟩) (fun _ R s => s.heap.get? l = some { cls := .type "list", dict := dd, data := .seq items n, slots := sl } ∧ R (.ok (.ret (Value.ref s.heap.objs.size))) { s with heap := s.heap.push { cls := Value.type "list", data := Data.seq (List.foldl (fun x1 x2 => x1 ++ x2) #[] (List.replicate (if items.isEmpty = true then 0 else x.toNat) items)) }, toks := s.toks }) :=
  .of_wp fun prog w A R s h => by
    obtain ⟨hp, g, d, tk, os⟩ := s; obtain ⟨hl, h⟩ := h
    have hsz := AutoListH.joined_fits hc2; have f1 := AutoSeq1.idx_int; have f2 := AutoSeq1.sub_tuple_tuple; have f3 := AutoSeq1.sub_list_list; have f4 := AutoSeq1.sub_tuple_list; have f5 := AutoSeq1.sub_list_tuple
    wp_walk using AutoSeq1.wpAny_loadPart' hl; refine wpAny_ite_false (decide_eq_false (Nat.not_lt.mpr hsz)) ?_; wp_walk using AutoSeq1.wpAny_loadPart' hl; exact ⟨_, rfl, h⟩
theorem int_rmulW (a : Int) (t : Tok) (l : Addr) (items : Array Value) (n : Nat) (dd : Option Addr) (sl : Array (Option Value)) :
    Meets (Builtin.«int.__rmul__» ⟨[.int a t, .ref l], []⟩) (fun _ R s => s.heap.get? l = some { cls := .type "list", dict := dd, data := .seq items n, slots := sl } ∧ R (.ok (.ret Value.notImplemented)) s) :=
  .of_wp fun prog w A R s h => by obtain ⟨hp, g, d, tk, os⟩ := s; obtain ⟨hl, h⟩ := h; wp_walk using AutoSeq1.wpAny_loadPart' hl; exact ⟨_, rfl, h⟩

section
variable {X : Cx}
/-! ### operators -/
def rCatL (K : Frag) : R2 := fun x y H Q => ∃ a b xs ys, x = .ref a ∧ y = .ref b ∧ SqL K H a xs ∧ SqL K H b ys ∧ xs.length + ys.length ≤ sizeLine ∧ ∀ p, H p = none → Q (.ref p) (upd H p (.lst (xs ++ ys)))
theorem op_catL : OpR X (binaryOp .Add) (rCatL X.K) := by
  intro pins s σ H x y v u Q I rx ry h
  obtain ⟨l, b, xs, zs, rfl, rfl, hH, hB, hz, q⟩ := h
  cases rx
  cases ry
  obtain ⟨its, r, p1, _⟩ := I.list hH
  obtain ⟨its2, r2, p2, _⟩ := I.list hB
  obtain ⟨⟨cls, dd, data, sl⟩, ho, hc, n, hd⟩ := p1.isList
  obtain ⟨⟨cls2, dd2, data2, sl2⟩, ho2, hc2, n2, hd2⟩ := p2.isList
  simp only at hc hd hc2 hd2
  subst hc hd hc2 hd2
  have e : its.toArray ++ its2.toArray = (its ++ its2).toArray := by simp
  have l1 := r.length
  have l2 := r2.length
  refine concat_meets ⟨_, ho, rfl⟩ ⟨_, ho2, rfl⟩ noFill_list_add seq_list_add PySem.F.slot_list_add PySem.F.entry_list_add (PySem.F.args_list_add_2 _ _) (list_addW l b its.toArray its2.toArray n n2 dd dd2 sl sl2 (by simp only [List.size_toArray]; omega)) ⟨ho, ho2, ?_⟩
  rw [e]
  exact ⟨.ref _, _, I.lnew (t' := s.toks) (r.append r2) (by rw [List.length_append]; omega), rfl, q _ I.fresh⟩
def rStr : R2 := fun x y H Q => ∃ i j, x = .str i ∧ y = .str j ∧ i.length + j.length ≤ sizeLine ∧ Q (.str (i ++ j)) H
def rAddU (K : Frag) : R2 := fun x y H Q => rI0 (fun i j => .int (i + j)) x y H Q ∨ (rStr x y H Q ∨ (rCatL K x y H Q ∨ rCatA K x y H Q))
theorem op_addU : OpR X (binaryOp .Add) (rAddU X.K) := op_add.or (OpR.or op_add_str (op_catL.or op_catA))
def oAdd (x y : O) : Option O :=
  match x, y with
  | .fz (.int a), .fz (.int b) => some (.fz (.int (a + b)))
  | .fz (.str a), .fz (.str b) => if a.length + b.length ≤ sizeLine then some (.fz (.str (a ++ b))) else none
  | x, y => match seqL x, seqL y with
    | some a, some b => if a.length + b.length ≤ sizeLine then some (.fz (.list (a ++ b))) else none
    | _, _ => match seqT x, seqT y with
      | some a, some b => if a.length + b.length ≤ sizeLine then some (.fz (.tuple (a ++ b))) else none
      | _, _ => none
theorem new_list {k : Kc} {F H : Hp} {S : List Addr} {vs : List V} {ds : List PD} {Q : VK} (f : FLe F H) (r : Reps k.K F vs ds) (h : ∀ v F' H', Xt F H F' H' → Vw k F' H' S v (.fz (.list ds)) → Q v H') : ∀ p, H p = none → Q (.ref p) (upd H p (.lst vs)) := fun p hp =>
  have x := Xt.new (o := .lst vs) f hp
  h _ _ _ x (.fz (.lst (SqL.of upd_same) (r.sub x.sub)))
theorem new_tuple {k : Kc} {F H : Hp} {S : List Addr} {vs : List V} {ds : List PD} {Q : VK} (f : FLe F H) (r : Reps k.K F vs ds) (h : ∀ v F' H', Xt F H F' H' → Vw k F' H' S v (.fz (.tuple ds)) → Q v H') : ∀ p, H p = none → Q (.ref p) (upd H p (.tup vs)) := fun p hp =>
  have x := Xt.new (o := .tup vs) f hp
  h _ _ _ x (.fz (.tup (.inl upd_same) (r.sub x.sub)))
theorem own_list {k : Kc} {F H : Hp} {vs : List V} {ds : List PD} {Q : VK} (f : FLe F H) (r : Reps k.K F vs ds) (h : ∀ v F' H' T, Xt F H F' H' → Own k F' H' v (.lst ds) T → Fresh F' H H' T → Q v H') : ∀ p, H p = none → Q (.ref p) (upd H p (.lst vs)) := fun p hp =>
  have x := Xt.own (o := .lst vs) f hp
  h _ _ _ [p] x (.lst (.inl upd_same) r) ⟨List.nodup_cons.mpr ⟨List.not_mem_nil, .nil⟩, (fun a m => by rw [List.mem_singleton.mp m]; exact hp), (fun a m => by rw [List.mem_singleton.mp m]; exact fle_none f hp), (fun a m o u z => by rw [List.mem_singleton.mp m, upd_same] at z; cases z)⟩
theorem Vw.seqTz {k : Kc} {F H : Hp} {S : List Addr} {v : V} {o : O} {ds : List PD} (h : Vw k F H S v o) (e : FM.seqT o = some ds) : Vw k F H S v (.fz (.tuple ds)) := by
  unfold FM.seqT at e
  split at e
  · have e' := Option.some.inj e
    subst e'
    exact h
  · have e' := Option.some.inj e
    subst e'
    obtain ⟨T, _, q⟩ := h
    cases q with
    | ctp h1 n _ _ r => exact .fz (.tup (.inr ⟨⟨_, h1⟩, n⟩) r)
  · cases e
theorem ov_add {k : Kc} : OpV k (rAddU k.K) oAdd := by
  intro F H S x y ox oy o Q f off th wx wy e h
  unfold oAdd at e
  split at e
  · have e' := Option.some.inj e
    subst e'
    exact .inl ⟨_, _, wx.int, wy.int, h _ F H (Xt.refl f) (.fz (.int _))⟩
  · split at e
    · rename_i hz
      have e' := Option.some.inj e
      subst e'
      exact .inr (.inl ⟨_, _, wx.str, wy.str, hz, h _ F H (Xt.refl f) (.fz (.str _))⟩)
    · cases e
  · split at e
    · rename_i a b ea eb
      split at e
      · rename_i hz
        have e' := Option.some.inj e
        subst e'
        obtain ⟨p, vs, rfl, hs, rs⟩ := wx.seqL f ea
        obtain ⟨p2, vs2, rfl, hs2, rs2⟩ := wy.seqL f eb
        exact .inr (.inr (.inl ⟨p, p2, vs, vs2, rfl, rfl, hs, hs2, by rw [rs.length, rs2.length]; exact hz, new_list f (rs.append rs2) h⟩))
      · cases e
    · split at e
      · rename_i a b ea eb
        split at e
        · rename_i hz
          have e' := Option.some.inj e
          subst e'
          obtain ⟨p, vs, rfl, hs, rs⟩ := wx.seqT f ea
          obtain ⟨p2, vs2, rfl, hs2, rs2⟩ := wy.seqT f eb
          have l1 := rs.length
          have l2 := rs2.length
          have wx := wx.seqTz ea
          have wy := wy.seqTz eb
          refine .inr (.inr (.inr ⟨p, p2, vs, vs2, rfl, rfl, hs.sq, hs2.sq, by rw [l1, l2]; exact hz, fun e0 => ?_, fun _ e0 => ?_, fun _ _ => new_tuple f (rs.append rs2) h⟩))
          · have : a = [] := List.length_eq_zero_iff.mp (by rw [← l1, e0]; rfl)
            rw [this] at h
            exact h _ F H (Xt.refl f) wy
          · have : b = [] := List.length_eq_zero_iff.mp (by rw [← l2, e0]; rfl)
            rw [this, List.append_nil] at h
            exact h _ F H (Xt.refl f) wx
        · cases e
      · cases e
/-- ints -/
def oI (c : Int → Int → Bool) (g : Int → Int → PD) (x y : O) : Option O :=
  match x, y with
  | .fz (.int a), .fz (.int b) => if c a b then some (.fz (g a b)) else none
  | _, _ => none
theorem ov_I {k : Kc} {C : Int → Int → Prop} {c : Int → Int → Bool} {g : Int → Int → V} {gd : Int → Int → PD} (hc : ∀ a b, c a b = true → C a b) (hg : ∀ F a b, Rep k.K F (g a b) (gd a b)) : OpV k (rI C g) (oI c gd) := by
  intro F H S x y ox oy o Q f off th wx wy e h
  unfold oI at e
  split at e
  · split at e
    · rename_i hz
      have e' := Option.some.inj e
      subst e'
      exact ⟨_, _, wx.int, wy.int, hc _ _ hz, h _ F H (Xt.refl f) (.fz (hg F _ _))⟩
    · cases e
  · cases e
def oI0 (g : Int → Int → PD) (x y : O) : Option O :=
  match x, y with
  | .fz (.int a), .fz (.int b) => some (.fz (g a b))
  | _, _ => none
theorem ov_I0 {k : Kc} {g : Int → Int → V} {gd : Int → Int → PD} (hg : ∀ F a b, Rep k.K F (g a b) (gd a b)) : OpV k (rI0 g) (oI0 gd) := by
  intro F H S x y ox oy o Q f off th wx wy e h
  unfold oI0 at e
  split at e
  · have e' := Option.some.inj e
    subst e'
    exact ⟨_, _, wx.int, wy.int, h _ F H (Xt.refl f) (.fz (hg F _ _))⟩
  · cases e
abbrev oSub := oI0 fun a b => .int (a - b)
theorem ov_sub {k : Kc} : OpV k (rI0 fun i j => .int (i - j)) oSub := ov_I0 fun _ _ _ => .int _
/-- the left operand small, the right one small, or both of less than 300,000 bits -/
def CMulA (i j : Int) : Prop := CMul i j ∨ CMulW i j
theorem op_mulA : OpR X (binaryOp .Mult) (rI CMulA fun i j => .int (i * j)) := opI fun i j t u Q E s hc q => mul_int q (hc.elim (fun z => z.ok) fun z => z.ok)
noncomputable def small64 (i : Int) : Bool := @decide (-(2 ^ 64) < i ∧ i < 2 ^ 64) (Classical.propDecidable _)
noncomputable def cMul (i j : Int) : Bool := small64 i || small64 j || (decide (i.natAbs < 2 ^ 400000) && decide (j.natAbs < 2 ^ 400000))
theorem cMul_ok (a b : Int) (h : cMul a b = true) : CMulA a b := by
  unfold cMul small64 at h
  simp only [Bool.or_eq_true, Bool.and_eq_true, decide_eq_true_eq] at h
  rcases h with (h | h) | h
  · exact .inl (.inl h)
  · exact .inl (.inr h)
  · exact .inr (wide_mul h.1 h.2 (by decide) (by decide) (by decide))
def rRepL (K : Frag) : R2 := fun x y H Q => ∃ l k xs, x = .ref l ∧ y = .int k ∧ SqL K H l xs ∧ -(2 ^ 63) ≤ k ∧ k < 2 ^ 63 ∧ xs.length * k.toNat ≤ sizeLine ∧
  ∀ p, H p = none → Q (.ref p) (upd H p (.lst (List.replicate k.toNat xs).flatten))
theorem op_repL : OpR X (binaryOp .Mult) (rRepL X.K) := by
  intro pins s σ H x y v u Q I rx ry h
  obtain ⟨l, k, xs, rfl, rfl, hH, h1, h2, hz, q⟩ := h
  cases rx
  obtain ⟨t, rfl⟩ := ry
  obtain ⟨its, r, p1, _⟩ := I.list hH
  have hl := r.length
  obtain ⟨⟨cls, dd, data, sl⟩, e, hc, n, hd⟩ := p1.isList
  simp only at hc hd
  subst hc hd
  have hlen : its.toArray.size * k.toNat ≤ sizeLine := by rw [List.size_toArray, ← hl]; exact hz
  have hcap : ¬ its.toArray.size * k.toNat > (2 ^ 63 - 1) / 8 := by
    have : (sizeLine : Nat) ≤ (2 ^ 63 - 1) / 8 := by decide
    omega
  have hfit : ¬ (!Builtin.List.listFitsIndex k) = true := by
    rw [fitsIndex_both h1 h2]
    exact Bool.false_ne_true
  have hlong : ¬ Builtin.List.listTooLong (its.toArray.size * k.toNat) = true := by
    rw [notLongL hlen]
    exact Bool.false_ne_true
  have hnew : List.foldl (fun x1 x2 => x1 ++ x2) #[] (List.replicate (if its.toArray.isEmpty = true then 0 else k.toNat) its.toArray) = (List.replicate k.toNat its).flatten.toArray := by
    have f0 : ∀ m : Nat, List.foldl (fun x1 x2 => x1 ++ x2) #[] (List.replicate m its.toArray) = (List.replicate m its).flatten.toArray := fun m => by
      have := foldl_rep its m []
      rw [List.nil_append] at this
      exact this
    rw [f0]
    cases its with
    | nil => simp
    | cons a r' => rw [if_neg (by simp)]
  refine wpAny_binaryOp_repeat_ref (T := "list") (U := "int") (by decide) ⟨_, e, rfl⟩ (fun s' => typeIs_int s' k t) noFill_list_mul F.fills_int_mul F.slot_int_rmul repeat_list F.slot_int_index.lookup
    (call_meets F.slot_int_rmul (typeIs_int s k t) F.entry_int_rmul (F.args_int_rmul_2 _ _) (int_rmulW k t l its.toArray n dd sl)
      ⟨e, rfl, ⟨_, e, rfl⟩, call_meets F.slot_list_mul ⟨_, e, rfl⟩ F.entry_list_mul (F.args_list_mul_2 _ _) (list_mulW l its.toArray n dd sl k t hfit hcap hlong) ⟨e, ?_⟩⟩)
  rw [hnew]
  exact ⟨.ref _, _, I.lnew (t' := s.toks) (r.rep k.toNat) (by rw [PyProof.Rows.lm_len_rep_flat, Nat.mul_comm]; exact hz), rfl, q _ I.fresh⟩
theorem Reps.rep {K : Frag} {F : Hp} {vs : List V} {ds : List PD} (r : Reps K F vs ds) : ∀ n : Nat, Reps K F (List.replicate n vs).flatten (List.replicate n ds).flatten
  | 0 => by simp only [List.replicate_zero, List.flatten_nil]; exact .nil
  | n + 1 => by
    rw [List.replicate_succ, List.replicate_succ, List.flatten_cons, List.flatten_cons]
    exact r.append (Reps.rep r n)
def rMulU (K : Frag) : R2 := fun x y H Q => rI CMulA (fun i j => .int (i * j)) x y H Q ∨ rRepL K x y H Q
theorem op_mulU : OpR X (binaryOp .Mult) (rMulU X.K) := op_mulA.or op_repL
noncomputable def oMul (x y : O) : Option O :=
  match x, y with
  | .fz (.int a), .fz (.int b) => if cMul a b then some (.fz (.int (a * b))) else none
  | x, .fz (.int b) => match seqL x with
    | some a => if -(2 ^ 63) ≤ b ∧ b < 2 ^ 63 ∧ a.length * b.toNat ≤ sizeLine then some (.fz (.list (List.replicate b.toNat a).flatten)) else none
    | none => none
  | _, _ => none
theorem ov_mul {k : Kc} : OpV k (rMulU k.K) oMul := by
  intro F H S x y ox oy o Q f off th wx wy e h
  unfold oMul at e
  split at e
  · split at e
    · rename_i hz
      have e' := Option.some.inj e
      subst e'
      exact .inl ⟨_, _, wx.int, wy.int, cMul_ok _ _ hz, h _ F H (Xt.refl f) (.fz (.int _))⟩
    · cases e
  · split at e
    · rename_i a ea
      split at e
      · rename_i hz
        have e' := Option.some.inj e
        subst e'
        obtain ⟨p, vs, rfl, hs, rs⟩ := wx.seqL f ea
        exact .inr ⟨p, _, vs, rfl, wy.int, hs, hz.1, hz.2.1, by rw [rs.length]; exact hz.2.2, new_list f (rs.rep _) h⟩
      · cases e
    · cases e
  · cases e
def cDiv (_ j : Int) : Bool := decide (0 < j) && decide (j.natAbs < 2 ^ 8000)
theorem cDiv_ok (a b : Int) (h : cDiv a b = true) : CDivW a b := by
  unfold cDiv at h
  simp only [Bool.and_eq_true, decide_eq_true_eq] at h
  exact wide_div h.1 h.2 (by decide) (by decide)
abbrev oDiv := oI cDiv fun a b => .int (a / b)
theorem ov_div {k : Kc} : OpV k (rI CDivW fun i j => .int (i / j)) oDiv := ov_I cDiv_ok fun _ _ _ => .int _
abbrev oMod := oI (fun _ b => decide (0 < b)) fun a b => .int (a % b)
theorem ov_mod {k : Kc} : OpV k (rI (fun _ j => 0 < j) fun i j => .int (i % j)) oMod := ov_I (fun _ _ h => of_decide_eq_true h) fun _ _ _ => .int _
def cPow (i j : Int) : Bool := decide (0 ≤ j) && decide (j ≤ 1000000) && decide (i.natAbs < 2 ^ 64)
abbrev oPow := oI cPow fun a b => .int (a ^ b.toNat)
theorem ov_pow {k : Kc} : OpV k (rI CPow fun i j => .int (i ^ j.toNat)) oPow := ov_I (fun a b h => by
  unfold cPow at h
  simp only [Bool.and_eq_true, decide_eq_true_eq] at h
  exact ⟨h.1.1, h.1.2, h.2⟩) fun _ _ _ => .int _
abbrev oLt := oI0 fun a b => .bool (decide (a < b))
abbrev oLe := oI0 fun a b => .bool (decide (a ≤ b))
abbrev oGt := oI0 fun a b => .bool (decide (b < a))
abbrev oGe := oI0 fun a b => .bool (decide (b ≤ a))
theorem ov_lt {k : Kc} : OpV k (rI0 fun i j => .bl (decide (i < j))) oLt := ov_I0 fun _ _ _ => .bl _
theorem ov_le {k : Kc} : OpV k (rI0 fun i j => .bl (decide (i ≤ j))) oLe := ov_I0 fun _ _ _ => .bl _
theorem ov_gt {k : Kc} : OpV k (rI0 fun i j => .bl (decide (j < i))) oGt := ov_I0 fun _ _ _ => .bl _
theorem ov_ge {k : Kc} : OpV k (rI0 fun i j => .bl (decide (j ≤ i))) oGe := ov_I0 fun _ _ _ => .bl _
def oNeg : O → Option O
  | .fz (.int a) => some (.fz (.int (-a)))
  | _ => none
theorem uv_neg {k : Kc} : UnV k (rU fun i => .int (-i)) oNeg := by
  intro F H S x ox o Q f off th wx e h
  unfold oNeg at e
  split at e
  · have e' := Option.some.inj e
    subst e'
    exact ⟨_, wx.int, h _ F H (Xt.refl f) (.fz (.int _))⟩
  · cases e
/-! ### == and != -/
def rEqU (K : Frag) : R2 := fun x y H Q => rEq x y H Q ∨ rEqD K x y H Q
def rNeU (K : Frag) : R2 := fun x y H Q => rNe x y H Q ∨ rNeD K x y H Q
theorem op_eqU (hu : X.A.units + 64 < cLine) : OpR X (compareOp .Eq) (rEqU X.K) := op_eq.or (op_eqD hu)
theorem op_neU (hu : X.A.units + 64 < cLine) : OpR X (compareOp .NotEq) (rNeU X.K) := op_ne.or (op_neD hu)
def oEqD (x y : O) : Option O := match toPD x, toPD y with
  | some d, some e => if SeqAt.shaped d && SeqAt.shaped e then some (.fz (.bool (PyData.eqv d e))) else none
  | _, _ => none
def oNeD (x y : O) : Option O := match toPD x, toPD y with
  | some d, some e => if SeqAt.shaped d && SeqAt.shaped e then some (.fz (.bool (!PyData.eqv d e))) else none
  | _, _ => none
def strs2 : O → O → Option (Str × Str)
  | .fz (.str a), .fz (.str b) => some (a, b)
  | _, _ => none
def oEq (x y : O) : Option O := match strs2 x y with
  | some p => some (.fz (.bool (decide (p.1 = p.2))))
  | none => oEqD x y
def oNe (x y : O) : Option O := match strs2 x y with
  | some p => some (.fz (.bool (!decide (p.1 = p.2))))
  | none => oNeD x y
theorem strs2_eq {x y : O} {p : Str × Str} (e : strs2 x y = some p) : x = .fz (.str p.1) ∧ y = .fz (.str p.2) := by
  unfold strs2 at e
  split at e
  · have e' := Option.some.inj e
    subst e'
    exact ⟨rfl, rfl⟩
  · cases e
theorem dec_str (a b : Str) : decide (V.str a = V.str b) = decide (a = b) := decide_eq_decide.mpr ⟨fun e => V.str.inj e, fun e => by rw [e]⟩
theorem ov_eq {k : Kc} : OpV k (rEqU k.K) oEq := by
  intro F H S x y ox oy o Q f off th wx wy e h
  unfold oEq at e
  split at e
  · rename_i p ep
    obtain ⟨e1, e2⟩ := strs2_eq ep
    subst e1 e2
    have e' := Option.some.inj e
    subst e'
    have h1 := wx.str
    have h2 := wy.str
    subst h1 h2
    refine .inl ⟨rfl, ?_⟩
    rw [dec_str]
    exact h _ F H (Xt.refl f) (.fz (.bl _))
  · unfold oEqD at e
    split at e
    · rename_i d d2 e1 e2
      split at e
      · rename_i hz
        have hz := Bool.and_eq_true_iff.mp hz
        have e' := Option.some.inj e
        subst e'
        exact .inr ⟨d, d2, (wx.at_ f e1).dp (SeqAt.canLay_of_shaped hz.1), (wy.at_ f e2).dp (SeqAt.canLay_of_shaped hz.2), hz.1, hz.2, h _ F H (Xt.refl f) (.fz (.bl _))⟩
      · cases e
    · cases e
theorem ov_ne {k : Kc} : OpV k (rNeU k.K) oNe := by
  intro F H S x y ox oy o Q f off th wx wy e h
  unfold oNe at e
  split at e
  · rename_i p ep
    obtain ⟨e1, e2⟩ := strs2_eq ep
    subst e1 e2
    have e' := Option.some.inj e
    subst e'
    have h1 := wx.str
    have h2 := wy.str
    subst h1 h2
    refine .inl ⟨rfl, ?_⟩
    rw [dec_str]
    exact h _ F H (Xt.refl f) (.fz (.bl _))
  · unfold oNeD at e
    split at e
    · rename_i d d2 e1 e2
      split at e
      · rename_i hz
        have hz := Bool.and_eq_true_iff.mp hz
        have e' := Option.some.inj e
        subst e'
        exact .inr ⟨d, d2, (wx.at_ f e1).dp (SeqAt.canLay_of_shaped hz.1), (wy.at_ f e2).dp (SeqAt.canLay_of_shaped hz.2), hz.1, hz.2, h _ F H (Xt.refl f) (.fz (.bl _))⟩
      · cases e
    · cases e
/-! ### is None, is True -/
def oIsN (x y : O) : Option O := match y with
  | .fz .none => match toPD x with
    | some .none => some (.fz (.bool true))
    | some _ => some (.fz (.bool false))
    | none => none
  | _ => none
theorem Rep.non_iff {K : Frag} {H : Hp} {v : V} {d : PD} (h : Rep K H v d) : v = .non ↔ d = .none := by
  cases h with
  | dic _ _ e => subst e; simp
  | dit _ _ e => subst e; simp
  | _ => simp
theorem ov_isN {k : Kc} : OpV k (fun x y H Q => y = .non ∧ Q (.bl (decide (x = .non))) H) oIsN := by
  intro F H S x y ox oy o Q f off th wx wy e h
  unfold oIsN at e
  split at e
  · refine ⟨wy.non, ?_⟩
    split at e
    · rename_i e1
      have e' := Option.some.inj e
      subst e'
      rw [decide_eq_true ((wx.at_ f e1).non_iff.mpr rfl)]
      exact h _ F H (Xt.refl f) (.fz (.bl _))
    · rename_i d hd e1
      have e' := Option.some.inj e
      subst e'
      rw [decide_eq_false fun z => hd ((wx.at_ f e1).non_iff.mp z)]
      exact h _ F H (Xt.refl f) (.fz (.bl _))
    · cases e
  · cases e
end
end FM
namespace FM
open PySem L2 PyProof.Rows
section
variable {X : Cx}
/-! ### is, of truths -/
/-! ### dicts -/
def unkp : List (PD × PD) → Option (List (Key × PD))
  | [] => some []
  | (.int i, d) :: r => (unkp r).map fun z => (.inl i, d) :: z
  | (.str x, d) :: r => (unkp r).map fun z => (.inr x, d) :: z
  | _ :: _ => none
theorem unkp_kp : ∀ ds : List (Key × PD), unkp (ds.map kp) = some ds
  | [] => rfl
  | (.inl i, d) :: r => by
    show (unkp (r.map kp)).map _ = _
    rw [unkp_kp r]; rfl
  | (.inr i, d) :: r => by
    show (unkp (r.map kp)).map _ = _
    rw [unkp_kp r]; rfl
def unks : List PD → Option (List Key)
  | [] => some []
  | .int i :: r => (unks r).map fun z => .inl i :: z
  | .str x :: r => (unks r).map fun z => .inr x :: z
  | _ :: _ => none
theorem unks_keyD : ∀ ks : List Key, unks (ks.map keyD) = some ks
  | [] => rfl
  | .inl i :: r => by
    show (unks (r.map keyD)).map _ = _
    rw [unks_keyD r]; rfl
  | .inr i :: r => by
    show (unks (r.map keyD)).map _ = _
    rw [unks_keyD r]; rfl
def untp : List (PD × PD) → Option (List (List Key × PD))
  | [] => some []
  | (.tuple ks, d) :: r => match unks ks, untp r with
    | some k, some z => some ((k, d) :: z)
    | _, _ => none
  | _ :: _ => none
theorem untp_tp : ∀ ds : List (List Key × PD), untp (ds.map tp) = some ds
  | [] => rfl
  | (k, d) :: r => by
    show (match unks (k.map keyD), untp (r.map tp) with | some k, some z => some ((k, d) :: z) | _, _ => none) = _
    rw [unks_keyD, untp_tp r]
theorem unkp_tp {p : List Key × PD} {r : List (List Key × PD)} : unkp ((p :: r).map tp) = none := rfl
theorem untp_kp : ∀ {p : Key × PD} {r : List (Key × PD)}, untp ((p :: r).map kp) = none
  | (.inl _, _), _ => rfl
  | (.inr _, _), _ => rfl
/-- a dict by int and text keys -/
def dicK : O → Option (List (Key × PD))
  | .dic ds => some ds
  | .fz (.dict (p :: r)) => unkp (p :: r)
  | _ => none
def dicT : O → Option (List (List Key × PD))
  | .dit ds => some ds
  | .fz (.dict (p :: r)) => untp (p :: r)
  | _ => none
theorem Vw.dicK {k : Kc} {F H : Hp} {S : List Addr} {v : V} {o : O} {ds : List (Key × PD)} (h : Vw k F H S v o) (s : FLe F H) (e : FM.dicK o = some ds) : ∃ a vs, v = .ref a ∧ Rd H a (.dK vs) ∧ RepK k.K F vs ds := by
  obtain ⟨T, _, q⟩ := h
  unfold FM.dicK at e
  split at e
  · have e' := Option.some.inj e
    subst e'
    cases q with
    | dic h1 h2 => exact ⟨_, _, rfl, h1, h2⟩
  · cases q with
    | fz r =>
      cases r with
      | dic h1 h2 h3 =>
        have h3 := PyData.dict.inj h3
        rw [h3, unkp_kp] at e
        have e' := Option.some.inj e
        subst e'
        exact ⟨_, _, rfl, rd_le s h1, h2⟩
      | @dit a kvs ds2 _ h1 h2 h3 =>
        have h3 := PyData.dict.inj h3
        cases ds2 with
        | nil => cases h3
        | cons p r => rw [h3, unkp_tp] at e; cases e
  · cases e
theorem Vw.dicT {k : Kc} {F H : Hp} {S : List Addr} {v : V} {o : O} {ds : List (List Key × PD)} (h : Vw k F H S v o) (s : FLe F H) (e : FM.dicT o = some ds) : ∃ a vs, v = .ref a ∧ Rd H a (.dT vs) ∧ RepT k.K F vs ds := by
  obtain ⟨T, _, q⟩ := h
  unfold FM.dicT at e
  split at e
  · have e' := Option.some.inj e
    subst e'
    cases q with
    | dit h1 h2 => exact ⟨_, _, rfl, h1, h2⟩
  · cases q with
    | fz r =>
      cases r with
      | @dic a kvs ds2 _ h1 h2 h3 =>
        have h3 := PyData.dict.inj h3
        cases ds2 with
        | nil => cases h3
        | cons p r => rw [h3, untp_kp] at e; cases e
      | dit h1 h2 h3 =>
        have h3 := PyData.dict.inj h3
        rw [h3, untp_tp] at e
        have e' := Option.some.inj e
        subst e'
        exact ⟨_, _, rfl, rd_le s h1, h2⟩
  · cases e
def keyO : O → Option Key
  | .fz (.int i) => some (.inl i)
  | .fz (.str x) => some (.inr x)
  | _ => none
def keysO : O → Option (List Key)
  | .fz (.tuple (d :: ds)) => unks (d :: ds)
  | _ => none
theorem Vw.keyO {k : Kc} {F H : Hp} {S : List Addr} {v : V} {o : O} {x : Key} (h : Vw k F H S v o) (e : FM.keyO o = some x) : v = kV x := by
  unfold FM.keyO at e
  split at e
  · have e' := Option.some.inj e
    subst e'
    exact h.int
  · have e' := Option.some.inj e
    subst e'
    exact h.str
  · cases e
theorem Reps.keys {K : Frag} {F : Hp} : ∀ {vs : List V} {ds : List PD} {ks : List Key}, Reps K F vs ds → unks ds = some ks → vs = ks.map kV
  | _, _, _, .nil, e => by
    have e' := Option.some.inj e
    subst e'
    rfl
  | _, _, _, .cons (d := d) (ds := ds) h r, e => by
    cases d with
    | int i =>
      have e : (unks ds).map _ = some _ := e
      cases q : unks ds with
      | none => rw [q] at e; cases e
      | some z =>
        rw [q] at e
        have e' := Option.some.inj e
        subst e'
        rw [Reps.keys r q]
        cases h with
        | int => rfl
        | dic _ _ e => cases e
        | dit _ _ e => cases e
    | str i =>
      have e : (unks ds).map _ = some _ := e
      cases q : unks ds with
      | none => rw [q] at e; cases e
      | some z =>
        rw [q] at e
        have e' := Option.some.inj e
        subst e'
        rw [Reps.keys r q]
        cases h with
        | str => rfl
        | dic _ _ e => cases e
        | dit _ _ e => cases e
    | _ => cases e
theorem Vw.keysO {k : Kc} {F H : Hp} {S : List Addr} {v : V} {o : O} {x : List Key} (h : Vw k F H S v o) (f : FLe F H) (e : FM.keysO o = some x) : ∃ b, v = .ref b ∧ H b = some (.tup (x.map kV)) := by
  unfold FM.keysO at e
  split at e
  · obtain ⟨a, vs, rfl, h1, h2⟩ := h.seqT f rfl
    rw [h2.keys e] at h1
    refine ⟨a, rfl, h1.key fun z => ?_⟩
    have l1 := h2.length
    rw [h2.keys e, z] at l1
    simp at l1
  · cases e
def lk {κ : Type} [DecidableEq κ] {α : Type} (kvs : List (κ × α)) (k : κ) : Option α := (kvs.find? fun p => decide (p.1 = k)).map (·.2)
theorem RepK.val {K : Frag} {F : Hp} (x : Key) : ∀ {vs : List (Key × V)} {ds : List (Key × PD)}, RepK K F vs ds → (lk ds x = none ∧ valV vs x = none) ∨ ∃ d v, lk ds x = some d ∧ valV vs x = some v ∧ Rep K F v d
  | _, _, .nil => .inl ⟨rfl, rfl⟩
  | _, _, .cons (k := k) h r => by
    by_cases e : k = x
    · refine .inr ⟨_, _, ?_, valV_pos e, h⟩
      simp [lk, List.find?_cons, e]
    · rcases RepK.val x r with ⟨q1, q2⟩ | ⟨d, v, q1, q2, q3⟩
      · refine .inl ⟨?_, by rw [valV_neg e]; exact q2⟩
        simpa [lk, List.find?_cons, e] using q1
      · refine .inr ⟨d, v, ?_, by rw [valV_neg e]; exact q2, q3⟩
        simpa [lk, List.find?_cons, e] using q1
theorem RepT.val {K : Frag} {F : Hp} (x : List Key) : ∀ {vs : List (List Key × V)} {ds : List (List Key × PD)}, RepT K F vs ds → (lk ds x = none ∧ valV vs x = none) ∨ ∃ d v, lk ds x = some d ∧ valV vs x = some v ∧ Rep K F v d
  | _, _, .nil => .inl ⟨rfl, rfl⟩
  | _, _, .cons (k := k) h r => by
    by_cases e : k = x
    · refine .inr ⟨_, _, ?_, valV_pos e, h⟩
      simp [lk, List.find?_cons, e]
    · rcases RepT.val x r with ⟨q1, q2⟩ | ⟨d, v, q1, q2, q3⟩
      · refine .inl ⟨?_, by rw [valV_neg e]; exact q2⟩
        simpa [lk, List.find?_cons, e] using q1
      · refine .inr ⟨d, v, ?_, by rw [valV_neg e]; exact q2, q3⟩
        simpa [lk, List.find?_cons, e] using q1
/-- what a dict holds at a key -/
def oLook (d x : O) : Option (Option PD) := match dicK d, keyO x with
  | some ds, some k => some (lk ds k)
  | _, _ => match dicT d, keysO x with
    | some ds, some k => some (lk ds k)
    | _, _ => none
theorem look_ok {k : Kc} {F H : Hp} {S : List Addr} {x y : V} {ox oy : O} {r : Option PD} (wx : Vw k F H S x ox) (wy : Vw k F H S y oy) (f : FLe F H) (e : oLook ox oy = some r) :
    ∃ a z, x = .ref a ∧ DGet H a y z ∧ ((r = none ∧ z = none) ∨ ∃ d v, r = some d ∧ z = some v ∧ Rep k.K F v d) := by
  unfold oLook at e
  split at e
  · rename_i ds kk e1 e2
    have e' := Option.some.inj e
    subst e'
    obtain ⟨a, vs, rfl, h1, h2⟩ := wx.dicK f e1
    refine ⟨a, valV vs kk, rfl, .inl ⟨vs, kk, h1, wy.keyO e2, rfl⟩, ?_⟩
    exact h2.val kk
  · split at e
    · rename_i ds kk e1 e2
      have e' := Option.some.inj e
      subst e'
      obtain ⟨a, vs, rfl, h1, h2⟩ := wx.dicT f e1
      obtain ⟨b, rfl, h3⟩ := wy.keysO f e2
      refine ⟨a, valV vs kk, rfl, .inr ⟨vs, kk, b, h1, rfl, h3, rfl⟩, ?_⟩
      exact h2.val kk
    · cases e
def rIxD : R2 := fun x y H Q => ∃ a v, x = .ref a ∧ DGet H a y (some v) ∧ Q v H
theorem ix_dict (hu : X.A.units + 1 < cLine) : IxR X rIxD := by
  intro value slice pins s σ H x y v u Q I rx ry h hs
  obtain ⟨a, z, rfl, g, q⟩ := h
  cases rx
  exact tail_any (dict_typeIs I g) PySem.F.slot_dict_getitem.lookup (d_getItem hu I g ry fun w' s' I' r => ⟨z, H, I', r, q⟩) hs
def rIxU (K : Frag) : R2 := fun x y H Q => rIx K x y H Q ∨ rIxD x y H Q
theorem ix_U (hu : X.A.units + 1 < cLine) : IxR X (rIxU X.K) := ix_seq.or (ix_dict hu)
/-- x[i] -/
def oIx (x y : O) : Option O := match y with
  | .fz (.int i) => match seqL x with
    | some ds => (atI ds i).map .fz
    | none => match seqR x with
      | some ds => (atI ds i).map .fz
      | none => match x with
        | .fz (.str z) => if z.length ≤ sizeLine then (atI z.cps.toList i).map fun c => .fz (.str ⟨#[c]⟩) else none
        | .nst os => atI os i
        | .ntp os => atI os i
        | x => match oLook x y with
          | some (some d) => some (.fz d)
          | _ => none
  | y => match oLook x y with
    | some (some d) => some (.fz d)
    | _ => match x, keyO y with
      | .ndc os, some k => lk os k
      | _, _ => none
theorem Reps.at_ {K : Frag} {F : Hp} {vs : List V} {ds : List PD} {i : Int} {d : PD} (r : Reps K F vs ds) (e : atI ds i = some d) : ∃ v, atI vs i = some v ∧ Rep K F v d := by
  unfold atI at e ⊢
  rw [r.length]
  cases q : ixN ds.length i with
  | none => rw [q] at e; cases e
  | some j =>
    rw [q] at e
    exact r.get (i := j) e
inductive Ows (k : Kc) (F H : Hp) (S : List Addr) : List V → List O → Prop
  | nil : Ows k F H S [] []
  | cons {v : V} {o : O} {vs : List V} {os : List O} : Vw k F H S v o → Ows k F H S vs os → Ows k F H S (v :: vs) (o :: os)
theorem Owns.views {k : Kc} {F H : Hp} {U : List Addr} : ∀ {vs : List V} {os : List O} {S : List Addr}, (∀ a ∈ S, a ∈ U) → Owns k F H vs os S → Ows k F H U vs os
  | _, _, _, _, .nil => .nil
  | _, _, _, m, .cons h r => .cons ⟨_, fun a z => m a (List.mem_append_left _ z), h⟩ (Owns.views (fun a z => m a (List.mem_append_right _ z)) r)
theorem Ows.length {k : Kc} {F H : Hp} {S : List Addr} : ∀ {vs : List V} {os : List O}, Ows k F H S vs os → vs.length = os.length
  | _, _, .nil => rfl
  | _, _, .cons _ r => congrArg (· + 1) (Ows.length r)
theorem Ows.get {k : Kc} {F H : Hp} {S : List Addr} : ∀ {vs : List V} {os : List O} {i : Nat} {o : O}, Ows k F H S vs os → os[i]? = some o → ∃ v, vs[i]? = some v ∧ Vw k F H S v o
  | _, _, _, _, .nil, e => by simp at e
  | _, _, 0, _, .cons h r, e => by
    have e' : _ = _ := Option.some.inj (by simpa using e)
    subst e'
    exact ⟨_, rfl, h⟩
  | _, _, i + 1, _, .cons h r, e => by
    obtain ⟨v, q, w⟩ := Ows.get (i := i) r (by simpa using e)
    exact ⟨v, by simpa using q, w⟩
theorem Ows.at_ {k : Kc} {F H : Hp} {S : List Addr} {vs : List V} {os : List O} {i : Int} {o : O} (r : Ows k F H S vs os) (e : atI os i = some o) : ∃ v, atI vs i = some v ∧ Vw k F H S v o := by
  unfold atI at e ⊢
  rw [r.length]
  cases q : ixN os.length i with
  | none => rw [q] at e; cases e
  | some j =>
    rw [q] at e
    exact r.get (i := j) e
theorem OwnK.val {k : Kc} {F H : Hp} {U : List Addr} (x : Key) : ∀ {vs : List (Key × V)} {os : List (Key × O)} {S : List Addr} {o : O}, (∀ a ∈ S, a ∈ U) → OwnK k F H vs os S → lk os x = some o → ∃ v, valV vs x = some v ∧ Vw k F H U v o
  | _, _, _, _, _, .nil, e => by cases e
  | _, _, _, o, m, .cons (x := y) (o := o1) (os := os) h r, e => by
    by_cases q : y = x
    · have e1 : some o1 = some o := by simpa [lk, List.find?_cons, q] using e
      have e' := Option.some.inj e1
      subst e'
      exact ⟨_, valV_pos q, _, fun a z => m a (List.mem_append_left _ z), h⟩
    · have e1 : lk os x = some o := by simpa [lk, List.find?_cons, q] using e
      obtain ⟨v, h1, h2⟩ := OwnK.val x (fun a z => m a (List.mem_append_right _ z)) r e1
      exact ⟨v, by rw [valV_neg q]; exact h1, h2⟩
theorem ov_ix {k : Kc} : OpV k (rIxU k.K) oIx := by
  intro F H S x y ox oy o Q f off th wx wy e h
  have dict : ∀ {d : PD}, oLook ox oy = some (some d) → o = .fz d → rIxU k.K x y H Q := fun {d} e1 e2 => by
    subst e2
    obtain ⟨a, z, rfl, g, r⟩ := look_ok wx wy f e1
    rcases r with ⟨r, _⟩ | ⟨d', v, r1, r2, r3⟩
    · cases r
    · have r1' := Option.some.inj r1
      subst r1'
      subst r2
      exact .inr ⟨a, v, rfl, g, h _ F H (Xt.refl f) (.fz r3)⟩
  unfold oIx at e
  split at e
  · split at e
    · rename_i ds es
      obtain ⟨a, vs, rfl, h1, h2⟩ := wx.seqL f es
      obtain ⟨d, e1, e2⟩ := Option.map_eq_some_iff.mp e
      subst e2
      obtain ⟨v, h3, h4⟩ := h2.at_ e1
      exact .inl (.inl ⟨a, vs, _, v, rfl, wy.int, h1, h3, h _ F H (Xt.refl f) (.fz h4)⟩)
    · split at e
      · rename_i ds es
        obtain ⟨a, vs, rfl, h1, h2⟩ := wx.seqR f es
        obtain ⟨d, e1, e2⟩ := Option.map_eq_some_iff.mp e
        subst e2
        obtain ⟨v, h3, h4⟩ := h2.at_ e1
        exact .inl (.inr (.inl ⟨a, vs, _, v, rfl, wy.int, h1, h3, h _ F H (Xt.refl f) (.fz h4)⟩))
      · split at e
        · split at e
          · rename_i hz
            obtain ⟨c, e1, e2⟩ := Option.map_eq_some_iff.mp e
            subst e2
            exact .inl (.inr (.inr ⟨_, _, c, wx.str, wy.int, hz, e1, h _ F H (Xt.refl f) (.fz (.str _))⟩))
          · cases e
        · obtain ⟨T, m, q⟩ := wx
          cases q with
          | nst h1 h2 =>
            obtain ⟨v, h3, h4⟩ := (Owns.views (fun a z => m a (List.mem_cons_of_mem _ z)) h2).at_ e
            exact .inl (.inl ⟨_, _, _, v, rfl, wy.int, .inl h1, h3, h _ F H (Xt.refl f) h4⟩)
        · obtain ⟨T, m, q⟩ := wx
          cases q with
          | ntp h1 hg2 h2 =>
            obtain ⟨v, h3, h4⟩ := (Owns.views (fun a z => m a (List.mem_cons_of_mem _ z)) h2).at_ e
            exact .inl (.inr (.inl ⟨_, _, _, v, rfl, wy.int, SqT.of h1, h3, h _ F H (Xt.refl f) h4⟩))
        · split at e
          · rename_i e1
            exact dict e1 (Option.some.inj e).symm
          · cases e
  · split at e
    · rename_i e1
      exact dict e1 (Option.some.inj e).symm
    · split at e
      · rename_i os kk e2 _
        obtain ⟨T, m, q⟩ := wx
        cases q with
        | ndc h1 h2 =>
          obtain ⟨v, h3, h4⟩ := OwnK.val kk (fun a z => m a (List.mem_cons_of_mem _ z)) h2 e
          exact .inr ⟨_, v, rfl, .inl ⟨_, kk, h1, wy.keyO e2, h3.symm⟩, h _ F H (Xt.refl f) h4⟩
      · cases e
end
end FM
namespace FM
open PySem L2 PyProof.Rows
section
variable {X : Cx}
/-! ### in -/
theorem op_inT (hu : X.A.units + 65 < cLine) : OpR X (compareOp .In) (fun x y H Q => ∃ d ds, Dp X.K H x d ∧ Dp X.K H y (.tuple ds) ∧ SeqAt.shaped d = true ∧ SeqAt.shaped (.tuple ds) = true ∧ Q (.bl (ds.any fun z => PyData.eqv z d)) H) := by
  intro pins s σ H x y v u Q I rx ry h
  obtain ⟨d, ds, hd, he, sd, se, q⟩ := h
  obtain ⟨as, r1⟩ := Dp.reads I d x v hd rx
  obtain ⟨bs, r2⟩ := Dp.reads I (.tuple ds) y u he ry
  exact SeqAt.in_tuple_reads r2 r1 (SeqAt.canLay_of_shaped se) (SeqAt.canLay_of_shaped sd) (room_in_shaped sd hu) ⟨.bl _, H, I, rfl, q⟩
theorem op_notInT (hu : X.A.units + 65 < cLine) : OpR X (compareOp .NotIn) (fun x y H Q => ∃ d ds, Dp X.K H x d ∧ Dp X.K H y (.tuple ds) ∧ SeqAt.shaped d = true ∧ SeqAt.shaped (.tuple ds) = true ∧ Q (.bl (!ds.any fun z => PyData.eqv z d)) H) := by
  intro pins s σ H x y v u Q I rx ry h
  obtain ⟨d, ds, hd, he, sd, se, q⟩ := h
  obtain ⟨as, r1⟩ := Dp.reads I d x v hd rx
  obtain ⟨bs, r2⟩ := Dp.reads I (.tuple ds) y u he ry
  exact SeqAt.notIn_tuple_reads r2 r1 (SeqAt.canLay_of_shaped se) (SeqAt.canLay_of_shaped sd) (room_in_shaped sd hu) ⟨.bl _, H, I, rfl, q⟩
def rIn1 : R2 := fun x y H Q => ∃ i j, x = .str i ∧ y = .str j ∧ Q (.bl (!(Builtin.Str.occurrences j i 0 j.length 1).isEmpty)) H
def rNin1 : R2 := fun x y H Q => ∃ i j, x = .str i ∧ y = .str j ∧ Q (.bl (!(!(Builtin.Str.occurrences j i 0 j.length 1).isEmpty))) H
def rInDc : R2 := fun x y H Q => ∃ a o, y = .ref a ∧ DGet H a x o ∧ Q (.bl o.isSome) H
def rNinDc : R2 := fun x y H Q => ∃ a o, y = .ref a ∧ DGet H a x o ∧ Q (.bl (!o.isSome)) H
theorem op_inDc (hu : X.A.units + 1 < cLine) : OpR X (compareOp .In) rInDc := by
  intro pins s σ H x y v u Q I rx ry h
  obtain ⟨a, o, rfl, g, q⟩ := h
  cases ry
  exact d_in hu I g rx fun s' I' => ⟨.bl _, H, I', rfl, q⟩
theorem op_ninDc (hu : X.A.units + 1 < cLine) : OpR X (compareOp .NotIn) rNinDc := by
  intro pins s σ H x y v u Q I rx ry h
  obtain ⟨a, o, rfl, g, q⟩ := h
  cases ry
  exact d_notIn hu I g rx fun s' I' => ⟨.bl _, H, I', rfl, q⟩
def rInU (K : Frag) : R2 := fun x y H Q => rInD K x y H Q ∨ ((∃ d ds, Dp K H x d ∧ Dp K H y (.tuple ds) ∧ SeqAt.shaped d = true ∧ SeqAt.shaped (.tuple ds) = true ∧ Q (.bl (ds.any fun z => PyData.eqv z d)) H) ∨ (rIn1 x y H Q ∨ rInDc x y H Q))
def rNinU (K : Frag) : R2 := fun x y H Q => rNotInD K x y H Q ∨ ((∃ d ds, Dp K H x d ∧ Dp K H y (.tuple ds) ∧ SeqAt.shaped d = true ∧ SeqAt.shaped (.tuple ds) = true ∧ Q (.bl (!ds.any fun z => PyData.eqv z d)) H) ∨ (rNin1 x y H Q ∨ rNinDc x y H Q))
theorem op_inU (hu : X.A.units + 65 < cLine) : OpR X (compareOp .In) (rInU X.K) := (op_inD hu).or ((op_inT hu).or (OpR.or op_in_str (op_inDc (by omega))))
theorem op_ninU (hu : X.A.units + 65 < cLine) : OpR X (compareOp .NotIn) (rNinU X.K) := (op_notInD hu).or ((op_notInT hu).or (OpR.or op_notin_str (op_ninDc (by omega))))
/-- is x among y -/
def bIn (x y : O) : Option Bool := match x, y with
  | .fz (.str i), .fz (.str j) => some (!(Builtin.Str.occurrences j i 0 j.length 1).isEmpty)
  | x, y => match toPD x, seqL y with
    | some d, some ds => if SeqAt.shaped d && SeqAt.shaped (.list ds) then some (ds.any fun z => PyData.eqv z d) else none
    | some d, none => match seqR y with
      | some ds => if SeqAt.shaped d && SeqAt.shaped (.tuple ds) then some (ds.any fun z => PyData.eqv z d) else none
      | none => match oLook y x with
        | some r => some r.isSome
        | none => none
    | none, _ => none
def oIn (x y : O) : Option O := (bIn x y).map fun b => .fz (.bool b)
def oNin (x y : O) : Option O := (bIn x y).map fun b => .fz (.bool (!b))
theorem bin_ok {k : Kc} {F H : Hp} {S : List Addr} {x y : V} {ox oy : O} {b : Bool} (f : FLe F H) (wx : Vw k F H S x ox) (wy : Vw k F H S y oy) (e : bIn ox oy = some b) :
    (∀ Q : VK, Q (.bl b) H → rInU k.K x y H Q) ∧ (∀ Q : VK, Q (.bl (!b)) H → rNinU k.K x y H Q) := by
  unfold bIn at e
  split at e
  · have e' := Option.some.inj e
    subst e'
    exact ⟨fun Q h => .inr (.inr (.inl ⟨_, _, wx.str, wy.str, h⟩)), fun Q h => .inr (.inr (.inl ⟨_, _, wx.str, wy.str, h⟩))⟩
  · split at e
    · rename_i d ds e1 e2
      split at e
      · rename_i hz
        have hz := Bool.and_eq_true_iff.mp hz
        have e' := Option.some.inj e
        subst e'
        obtain ⟨a, vs, rfl, h1, h2⟩ := wy.seqL f e2
        have p1 := (wx.at_ f e1).dp (SeqAt.canLay_of_shaped hz.1)
        have p2 : Dp k.K H (.ref a) (.list ds) := (Rep.lst h1 (h2.le f)).dp (SeqAt.canLay_of_shaped hz.2)
        exact ⟨fun Q h => .inl ⟨d, ds, p1, p2, hz.1, hz.2, h⟩, fun Q h => .inl ⟨d, ds, p1, p2, hz.1, hz.2, h⟩⟩
      · cases e
    · rename_i d e1 e2
      split at e
      · rename_i ds e3
        split at e
        · rename_i hz
          have hz := Bool.and_eq_true_iff.mp hz
          have e' := Option.some.inj e
          subst e'
          obtain ⟨a, vs, rfl, h1, h2⟩ := wy.seqR f e3
          have p1 := (wx.at_ f e1).dp (SeqAt.canLay_of_shaped hz.1)
          have p2 : Dp k.K H (.ref a) (.tuple ds) := .tup h1 ((h2.le f).dp (by
            have := SeqAt.canLay_of_shaped hz.2
            simpa [PyData.canLay0] using this))
          exact ⟨fun Q h => .inr (.inl ⟨d, ds, p1, p2, hz.1, hz.2, h⟩), fun Q h => .inr (.inl ⟨d, ds, p1, p2, hz.1, hz.2, h⟩)⟩
        · cases e
      · split at e
        · rename_i r e4
          have e' := Option.some.inj e
          subst e'
          obtain ⟨a, z, rfl, g, q⟩ := look_ok wy wx f e4
          have ez : z.isSome = r.isSome := by
            rcases q with ⟨q1, q2⟩ | ⟨d', v, q1, q2, _⟩ <;> rw [q1, q2] <;> rfl
          exact ⟨fun Q h => .inr (.inr (.inr ⟨a, z, rfl, g, by rw [ez]; exact h⟩)), fun Q h => .inr (.inr (.inr ⟨a, z, rfl, g, by rw [ez]; exact h⟩))⟩
        · cases e
    · cases e
theorem ov_in {k : Kc} : OpV k (rInU k.K) oIn := by
  intro F H S x y ox oy o Q f off th wx wy e h
  obtain ⟨b, e1, e2⟩ := Option.map_eq_some_iff.mp e
  subst e2
  exact (bin_ok f wx wy e1).1 Q (h _ F H (Xt.refl f) (.fz (.bl _)))
theorem ov_nin {k : Kc} : OpV k (rNinU k.K) oNin := by
  intro F H S x y ox oy o Q f off th wx wy e h
  obtain ⟨b, e1, e2⟩ := Option.map_eq_some_iff.mp e
  subst e2
  exact (bin_ok f wx wy e1).2 Q (h _ F H (Xt.refl f) (.fz (.bl _)))
/-! ### slices -/
/-! ### len -/
def rLenU (K : Frag) : List V → Hp → VK → Prop := fun xs H Q => (∃ x n, xs = [x] ∧ LenV K x H n ∧ Q (.int n) H) ∨ ∃ a kvs, xs = [.ref a] ∧ Rd H a (.dK kvs) ∧ Q (.int (kvs.length : Int)) H
theorem call_lenU : CallR X (.builtin "len") (rLenU X.K) := by
  refine CallR.or call_len ?_
  intro pins s σ H xs us Q I r h
  obtain ⟨a, kvs, rfl, hd, q⟩ := h
  obtain ⟨u, rfl, ru⟩ := vals1 r
  cases ru
  exact d_len I hd fun t s' I' => ⟨.int _, H, I', ⟨t, rfl⟩, q⟩
def oLen1 (x : O) : Option O := match seqL x with
  | some ds => some (.fz (.int ds.length))
  | none => match seqR x with
    | some ds => some (.fz (.int ds.length))
    | none => match x with
      | .fz (.str z) => if z.length ≤ sizeLine then some (.fz (.int z.length)) else none
      | .nst os => some (.fz (.int os.length))
      | .ntp os => some (.fz (.int os.length))
      | x => match dicK x with
        | some ds => some (.fz (.int ds.length))
        | none => none
def oLen : List O → Option O
  | [x] => oLen1 x
  | _ => none
theorem RepK.length {K : Frag} {F : Hp} : ∀ {vs : List (Key × V)} {ds : List (Key × PD)}, RepK K F vs ds → vs.length = ds.length
  | _, _, .nil => rfl
  | _, _, .cons _ r => congrArg (· + 1) (RepK.length r)
theorem Owns.length {k : Kc} {F H : Hp} : ∀ {vs : List V} {os : List O} {S : List Addr}, Owns k F H vs os S → vs.length = os.length
  | _, _, _, .nil => rfl
  | _, _, _, .cons _ r => congrArg (· + 1) (Owns.length r)
theorem cb_len {k : Kc} : CbV k (rLenU k.K) oLen := by
  intro F H S xs os o Q f off th ws e h
  unfold oLen at e
  split at e
  · cases ws with
    | cons w ws =>
      cases ws
      have fin : ∀ {n : Nat}, o = .fz (.int n) → Q (.int (n : Int)) H := fun e' => by
        subst e'
        exact h _ F H (Xt.refl f) (.fz (.int _))
      unfold oLen1 at e
      split at e
      · rename_i ds es
        obtain ⟨a, vs, rfl, g1, g2⟩ := w.seqL f es
        exact .inl ⟨_, vs.length, rfl, .inl ⟨vs, g1, rfl⟩, fin (by rw [g2.length]; exact (Option.some.inj e).symm)⟩
      · split at e
        · rename_i ds es
          obtain ⟨a, vs, rfl, g1, g2⟩ := w.seqR f es
          exact .inl ⟨_, vs.length, rfl, .inr ⟨vs, g1, rfl⟩, fin (by rw [g2.length]; exact (Option.some.inj e).symm)⟩
        · split at e
          · split at e
            · rename_i hz
              have ew := w.str
              subst ew
              exact .inl ⟨_, _, rfl, ⟨hz, rfl⟩, fin (Option.some.inj e).symm⟩
            · cases e
          · obtain ⟨T, m, q⟩ := w
            cases q with
            | nst h1 h2 => exact .inl ⟨_, _, rfl, .inl ⟨_, .inl h1, rfl⟩, fin (by rw [h2.length]; exact (Option.some.inj e).symm)⟩
          · obtain ⟨T, m, q⟩ := w
            cases q with
            | ntp h1 hg2 h2 => exact .inl ⟨_, _, rfl, .inr ⟨_, SqT.of h1, rfl⟩, fin (by rw [h2.length]; exact (Option.some.inj e).symm)⟩
          · split at e
            · rename_i ds es
              obtain ⟨a, vs, rfl, g1, g2⟩ := w.dicK f es
              exact .inr ⟨a, vs, rfl, g1, fin (by rw [g2.length]; exact (Option.some.inj e).symm)⟩
            · cases e
  · cases e
/-! ### list(x), tuple(x) -/
def rListU (K : Frag) : List V → Hp → VK → Prop := fun xs H Q => ∃ p ys, xs = [.ref p] ∧ (SqL K H p ys ∨ SqT K H p ys) ∧ ∀ l, H l = none → Q (.ref l) (upd H l (.lst ys))
def oList : List O → Option O
  | [x] => match seqL x with
    | some ds => some (.lst ds)
    | none => match seqR x with
      | some ds => some (.lst ds)
      | none => none
  | _ => none
theorem cn_list {k : Kc} : CbN k (rListU k.K) oList := by
  intro F H S xs os o Q f off th ws e h
  unfold oList at e
  split at e
  · cases ws with
    | cons w ws =>
      cases ws
      split at e
      · rename_i ds es
        have e' := Option.some.inj e
        subst e'
        obtain ⟨a, vs, rfl, g1, g2⟩ := w.seqL f es
        exact ⟨a, vs, rfl, .inl g1, own_list f g2 h⟩
      · split at e
        · rename_i ds es
          have e' := Option.some.inj e
          subst e'
          obtain ⟨a, vs, rfl, g1, g2⟩ := w.seqR f es
          exact ⟨a, vs, rfl, .inr g1, own_list f g2 h⟩
        · cases e
  · cases e
def rTupU (K : Frag) : List V → Hp → VK → Prop := fun xs H Q => ∃ p ys, xs = [.ref p] ∧ ((SqL K H p ys ∧ ∀ l, H l = none → Q (.ref l) (upd H l (.tup ys))) ∨ (SqT K H p ys ∧ Q (.ref p) H))
def oTuple : List O → Option O
  | [x] => match seqL x with
    | some ds => some (.fz (.tuple ds))
    | none => match x with
      | .fz (.tuple ds) => some (.fz (.tuple ds))
      | _ => none
  | _ => none
theorem cb_tuple {k : Kc} : CbV k (rTupU k.K) oTuple := by
  intro F H S xs os o Q f off th ws e h
  unfold oTuple at e
  split at e
  · cases ws with
    | cons w ws =>
      cases ws
      split at e
      · rename_i ds es
        have e' := Option.some.inj e
        subst e'
        obtain ⟨a, vs, rfl, g1, g2⟩ := w.seqL f es
        exact ⟨a, vs, rfl, .inl ⟨g1, new_tuple f g2 h⟩⟩
      · split at e
        · have e' := Option.some.inj e
          subst e'
          obtain ⟨a, vs, rfl, g1, g2⟩ := w.seqT f rfl
          exact ⟨a, vs, rfl, .inr ⟨g1.sq, h _ F H (Xt.refl f) w⟩⟩
        · cases e
  · cases e
/-! ### small builtins -/
def oAbs : List O → Option O
  | [.fz (.int i)] => some (.fz (.int (if i < 0 then -i else i)))
  | _ => none
theorem cb_abs {k : Kc} : CbV k (fun xs H Q => ∃ i, xs = [.int i] ∧ Q (.int (if i < 0 then -i else i)) H) oAbs := by
  intro F H S xs os o Q f off th ws e h
  unfold oAbs at e
  split at e
  · have e' := Option.some.inj e
    subst e'
    cases ws with
    | cons w ws =>
      cases ws
      have ew := w.int
      subst ew
      exact ⟨_, rfl, h _ F H (Xt.refl f) (.fz (.int _))⟩
  · cases e
def oMax2 : List O → Option O
  | [.fz (.int i), .fz (.int j)] => some (.fz (.int (if j > i then j else i)))
  | _ => none
def oMin2 : List O → Option O
  | [.fz (.int i), .fz (.int j)] => some (.fz (.int (if j < i then j else i)))
  | _ => none
theorem cb_max2 {k : Kc} : CbV k (fun xs H Q => ∃ i j, xs = [.int i, .int j] ∧ Q (.int (if j > i then j else i)) H) oMax2 := by
  intro F H S xs os o Q f off th ws e h
  unfold oMax2 at e
  split at e
  · have e' := Option.some.inj e
    subst e'
    cases ws with
    | cons w ws =>
      cases ws with
      | cons w2 ws =>
        cases ws
        have ew := w.int
        have ew2 := w2.int
        subst ew ew2
        exact ⟨_, _, rfl, h _ F H (Xt.refl f) (.fz (.int _))⟩
  · cases e
theorem cb_min2 {k : Kc} : CbV k (fun xs H Q => ∃ i j, xs = [.int i, .int j] ∧ Q (.int (if j < i then j else i)) H) oMin2 := by
  intro F H S xs os o Q f off th ws e h
  unfold oMin2 at e
  split at e
  · have e' := Option.some.inj e
    subst e'
    cases ws with
    | cons w ws =>
      cases ws with
      | cons w2 ws =>
        cases ws
        have ew := w.int
        have ew2 := w2.int
        subst ew ew2
        exact ⟨_, _, rfl, h _ F H (Xt.refl f) (.fz (.int _))⟩
  · cases e
def oInt : List O → Option O
  | [.fz (.int i)] => some (.fz (.int i))
  | [.fz (.bool b)] => some (.fz (.int (if b then 1 else 0)))
  | [.fz (.str a)] => match PySem.intText? a with
    | some n => if a.length ≤ 640 then some (.fz (.int n)) else none
    | none => none
  | _ => none
def rIntU : List V → Hp → VK → Prop := fun xs H Q => ((∃ i, xs = [.int i] ∧ Q (.int i) H) ∨ ∃ k, xs = [.bl k] ∧ Q (.int (if k then 1 else 0)) H) ∨ ∃ a n, xs = [.str a] ∧ PySem.intText? a = some n ∧ a.length ≤ 640 ∧ Q (.int n) H
theorem call_intU : CallR X (.type "int") rIntU := CallR.or call_int1 call_int_str
theorem cb_int {k : Kc} : CbV k rIntU oInt := by
  intro F H S xs os o Q f off th ws e h
  unfold oInt at e
  split at e
  · have e' := Option.some.inj e
    subst e'
    cases ws with
    | cons w ws =>
      cases ws
      have ew := w.int
      subst ew
      exact .inl (.inl ⟨_, rfl, h _ F H (Xt.refl f) (.fz (.int _))⟩)
  · have e' := Option.some.inj e
    subst e'
    cases ws with
    | cons w ws =>
      cases ws
      have ew := w.bl
      subst ew
      exact .inl (.inr ⟨_, rfl, h _ F H (Xt.refl f) (.fz (.int _))⟩)
  · split at e
    · rename_i n en
      split at e
      · rename_i hz
        have e' := Option.some.inj e
        subst e'
        cases ws with
        | cons w ws =>
          cases ws
          have ew := w.str
          subst ew
          exact .inr ⟨_, n, rfl, en, hz, h _ F H (Xt.refl f) (.fz (.int _))⟩
      · cases e
    · cases e
  · cases e
/-! ### str(x) -/
end
end FM
namespace FM
open PySem L2 PyProof.Rows
section
variable {X : Cx}
/-! ### displays -/
def fzs : List O → Option (List PD)
  | [] => some []
  | .fz d :: r => (fzs r).map fun z => d :: z
  | _ :: _ => none
theorem Vws.fzs {k : Kc} {F H : Hp} {S : List Addr} : ∀ {vs : List V} {os : List O} {ds : List PD}, Vws k F H S vs os → FM.fzs os = some ds → Reps k.K F vs ds
  | _, _, _, .nil, e => by
    have e' := Option.some.inj e
    subst e'
    exact .nil
  | _, _, _, .cons (o := o) (os := os) w ws, e => by
    cases o with
    | fz d =>
      obtain ⟨z, e1, e2⟩ := Option.map_eq_some_iff.mp (show (FM.fzs os).map (fun z => d :: z) = some _ from e)
      subst e2
      exact .cons w.rep (Vws.fzs ws e1)
    | _ => cases e
def qTup (r : List O → Option (List O)) : QE := fun ρ => match r ρ with
  | none => none
  | some os => match fzs os with
    | some ds => if ds.length ≤ sizeLine then some (.fz (.tuple ds)) else none
    | none => none
def qLst (r : List O → Option (List O)) : QE := fun ρ => match r ρ with
  | none => none
  | some os => match fzs os with
    | some ds => if ds.length ≤ sizeLine then some (.lst ds) else none
    | none => none
theorem tev_tup {k : Kc} {ta : TA} {qs : List O → Option (List O)} (ha : TAv k ta qs) : TEv k (tTup ta) (qTup qs) := by
  intro F H σ ρ S o Q q e h
  unfold qTup at e
  cases e1 : qs ρ with
  | none => rw [e1] at e; cases e
  | some os =>
    rw [e1] at e
    cases e2 : fzs os with
    | none => simp only [e2] at e; cases e
    | some ds =>
      simp only [e2] at e
      split at e
      · rename_i hz
        have e' := Option.some.inj e
        subst e'
        refine ha F H σ ρ S os _ q e1 fun vs F1 H1 x1 w1 => ?_
        have r := w1.fzs e2
        exact ⟨by rw [r.length]; exact hz, new_tuple x1.fle r fun v F' H' x w => h v F' H' (x1.trans x) w⟩
      · cases e
theorem ten_lst {k : Kc} {ta : TA} {qs : List O → Option (List O)} (ha : TAv k ta qs) : TEn k (tLst ta) (qLst qs) := by
  intro F H σ ρ S o Q q e h
  unfold qLst at e
  cases e1 : qs ρ with
  | none => rw [e1] at e; cases e
  | some os =>
    rw [e1] at e
    cases e2 : fzs os with
    | none => simp only [e2] at e; cases e
    | some ds =>
      simp only [e2] at e
      split at e
      · rename_i hz
        have e' := Option.some.inj e
        subst e'
        refine ha F H σ ρ S os _ q e1 fun vs F1 H1 x1 w1 => ?_
        have r := w1.fzs e2
        exact ⟨by rw [r.length]; exact hz, own_list x1.fle r fun v F' H' T x w fr => h v F' H' T (x1.trans x) w ⟨fr.nd, fun a m => none_back x1.ex (fr.new a m), fr.off, fr.nofz⟩⟩
      · cases e
/-! ### isinstance -/
/-! ### what is walked -/
/-- the items, each new one frozen: P says where it holds -/
structure WalkD (k : Kc) (P : Hp → Hp → Prop) (J : It) (ds : List PD) : Prop where
  goes : ∀ i F H, i < ds.length → P F H → FLe F H → J.go i H
  stops : ∀ F H, P F H → FLe F H → J.stop ds.length H
  yields : ∀ i F H x H' (hi : i < ds.length), P F H → FLe F H → J.yld i H x H' → ∃ F', Xt F H F' H' ∧ Rep k.K F' x ds[i]
abbrev QI := List O → Option (List PD)
/-- as long as nothing is changed -/
def TIv (k : Kc) (wi : TI) (q : QI) : Prop := ∀ (F H : Hp) (σ : L2.St) (ρ : List O) (S : List Addr) (ds : List PD) (R : It → Hp → Prop), Qs k F H σ ρ S → q ρ = some ds →
  (∀ J F' H', Xt F H F' H' → WalkD k (fun F2 H2 => Xt F' H' F2 H2) J ds → R J H') → wi σ H R
/-- as long as what is frozen stands -/
def TIf (k : Kc) (wi : TI) (q : QI) : Prop := ∀ (F H : Hp) (σ : L2.St) (ρ : List O) (S : List Addr) (ds : List PD) (R : It → Hp → Prop), Qs k F H σ ρ S → q ρ = some ds →
  (∀ J F' H', Xt F H F' H' → WalkD k (fun F2 _ => Same F' F2) J ds → R J H') → wi σ H R
theorem WalkD.mono {k : Kc} {P P' : Hp → Hp → Prop} {J : It} {ds : List PD} (w : WalkD k P J ds) (h : ∀ F H, P' F H → P F H) : WalkD k P' J ds :=
  ⟨fun i F H hi p f => w.goes i F H hi (h F H p) f, fun F H p f => w.stops F H (h F H p) f, fun i F H x H' hi p f y => w.yields i F H x H' hi (h F H p) f y⟩
theorem TIf.v {k : Kc} {wi : TI} {q : QI} (h : TIf k wi q) : TIv k wi q := fun F H σ ρ S ds R qs e g => h F H σ ρ S ds R qs e fun J F' H' x w => g J F' H' x (w.mono fun _ _ z => z.sub)
/-- over what P holds: SqL, SqT along P -/
theorem walkD_list {k : Kc} {P : Hp → Hp → Prop} {a : Addr} {vs : List V} {ds : List PD} (hs : ∀ F H, P F H → FLe F H → SqL k.K H a vs ∧ Reps k.K F vs ds) (hl : vs.length = ds.length) : WalkD k P (Itl k.K a) ds :=
  ⟨fun i F H hi p f => walk_list.goes i H (by omega) (hs F H p f).1, fun F H p f => by rw [← hl]; exact walk_list.stops H (hs F H p f).1, fun i F H x H' hi p f y => by
    obtain ⟨e1, e2⟩ := walk_list.yields i H x H' (by omega) (hs F H p f).1 y
    subst e1
    obtain ⟨v, e3, r⟩ := (hs F _ p f).2.get (i := i) (d := ds[i]) (by simp [hi])
    rw [e2] at e3
    have e3 := Option.some.inj e3
    subst e3
    exact ⟨F, Xt.refl f, r⟩⟩
theorem walkD_tup {k : Kc} {P : Hp → Hp → Prop} {a : Addr} {vs : List V} {ds : List PD} (hs : ∀ F H, P F H → FLe F H → SqT k.K H a vs ∧ Reps k.K F vs ds) (hl : vs.length = ds.length) : WalkD k P (Itt k.K a) ds :=
  ⟨fun i F H hi p f => walk_tup.goes i H (by omega) (hs F H p f).1, fun F H p f => by rw [← hl]; exact walk_tup.stops H (hs F H p f).1, fun i F H x H' hi p f y => by
    obtain ⟨e1, e2⟩ := walk_tup.yields i H x H' (by omega) (hs F H p f).1 y
    subst e1
    obtain ⟨v, e3, r⟩ := (hs F _ p f).2.get (i := i) (d := ds[i]) (by simp [hi])
    rw [e2] at e3
    have e3 := Option.some.inj e3
    subst e3
    exact ⟨F, Xt.refl f, r⟩⟩
/-- frozen ones alone -/
def fzL : O → Option (List PD)
  | .fz (.list ds) => some ds
  | _ => none
theorem Vw.fzL {k : Kc} {F H : Hp} {S : List Addr} {v : V} {o : O} {ds : List PD} (h : Vw k F H S v o) (e : FM.fzL o = some ds) : ∃ a vs, v = .ref a ∧ SqL k.K F a vs ∧ Reps k.K F vs ds := by
  unfold FM.fzL at e
  split at e
  · have e' := Option.some.inj e
    subst e'
    cases h.rep with
    | lst h1 h2 => exact ⟨_, _, rfl, h1, h2⟩
    | dic _ _ e => cases e
    | dit _ _ e => cases e
  · cases e
theorem Vw.fzR {k : Kc} {F H : Hp} {S : List Addr} {v : V} {o : O} {ds : List PD} (h : Vw k F H S v o) (e : FM.seqR o = some ds) : ∃ a vs, v = .ref a ∧ (∀ G, Same F G → SqT k.K G a vs) ∧ Reps k.K F vs ds := by
  obtain ⟨T, _, q⟩ := h
  cases q with
  | fz r =>
    cases r with
    | tup h1 h2 =>
      have e' := Option.some.inj e
      subst e'
      exact ⟨_, _, rfl, fun G s => (h1.sub s).sq, h2⟩
    | dic h1 h2 h3 => subst h3; cases e
    | dit h1 h2 h3 => subst h3; cases e
    | _ => cases e
  | ktp h1 h2 =>
    have e' := Option.some.inj e
    subst e'
    exact ⟨_, _, rfl, fun G _ => h1 G, h2⟩
  | ctp h1 n _ _ h2 =>
    have e' := Option.some.inj e
    subst e'
    exact ⟨_, _, rfl, fun G s => (RdT.sub s (.inr ⟨⟨_, h1⟩, n⟩)).sq, h2⟩
  | _ => cases e
/-- ranges -/
def rngD (lo : Int) (n : Nat) : List PD := (List.range n).map fun i => PyData.int (lo + (i : Nat))
theorem walkD_range {k : Kc} {P : Hp → Hp → Prop} {lo : Int} {n : Nat} : WalkD k P (Itr lo n) (rngD lo n) := by
  have hl : (rngD lo n).length = n := by unfold rngD; rw [List.length_map, List.length_range]
  refine ⟨fun i F H hi _ _ => ?_, fun F H _ _ => ?_, fun i F H x H' hi p f y => ?_⟩
  · rw [hl] at hi; exact hi
  · rw [hl]; exact Nat.le_refl n
  · obtain ⟨e1, e2⟩ := y
    subst e1 e2
    refine ⟨F, Xt.refl f, ?_⟩
    have : (rngD lo n)[i] = PyData.int (lo + (i : Nat)) := by simp [rngD]
    rw [this]
    exact .int _
noncomputable def big62 (i : Int) : Bool := @decide (-(2 ^ 62) ≤ i ∧ i < 2 ^ 62) (Classical.propDecidable _)
theorem big62_ok {i : Int} (h : big62 i = true) : -(2 ^ 62) ≤ i ∧ i < 2 ^ 62 := @of_decide_eq_true _ (Classical.propDecidable _) h
theorem big62_of {i : Int} (h1 : -(2 ^ 62) ≤ i) (h2 : i < 2 ^ 62) : big62 i = true := @decide_eq_true _ (Classical.propDecidable _) ⟨h1, h2⟩
noncomputable def qRng1 (r : List O → Option (List O)) : QI := fun ρ => match r ρ with
  | some [.fz (.int j)] => if big62 j then some (rngD 0 j.toNat) else none
  | _ => none
theorem tif_rng1 {k : Kc} {ta : TA} {qs : List O → Option (List O)} (ha : TAv k ta qs) : TIf k (iRng1 ta) (qRng1 qs) := by
  intro F H σ ρ S ds R q e g
  unfold qRng1 at e
  split at e
  · rename_i j e1
    split at e
    · rename_i hz
      have e' := Option.some.inj e
      subst e'
      refine ha F H σ ρ S _ _ q e1 fun vs F1 H1 x1 w1 => ?_
      cases w1 with
      | cons w ws =>
        cases ws
        have ew := w.int
        subst ew
        have b := big62_ok hz
        exact ⟨j, rfl, b.1, b.2, g _ F1 H1 x1 walkD_range⟩
    · cases e
  · cases e
/-! ### list(range(..)) -/
noncomputable def qLrg2 (a b : QE) : QE := fun ρ => match a ρ, b ρ with
  | some (.fz (.int m)), some (.fz (.int n)) => if big62 m && big62 n && decide ((n - m).toNat ≤ 2 ^ 24) then some (.lst (rngD m (n - m).toNat)) else none
  | _, _ => none
theorem reps_rg {K : Frag} {F : Hp} (a b : Int) : Reps K F (rgV a b) (rngD a (b - a).toNat) := by
  unfold rgV rngD
  generalize List.range (b - a).toNat = l
  induction l with
  | nil => exact .nil
  | cons x r ih => exact .cons (.int _) ih
theorem ten_lrg2 {k : Kc} {ta tb : TE} {qa qb : QE} (ha : TEv k ta qa) (hb : TEv k tb qb) : TEn k (tLstRg (tRg2 ta tb)) (qLrg2 qa qb) := by
  intro F H σ ρ S o Q q e h
  unfold qLrg2 at e
  split at e
  · rename_i m n e1 e2
    split at e
    · rename_i hz
      simp only [Bool.and_eq_true, decide_eq_true_eq] at hz
      have e' := Option.some.inj e
      subst e'
      refine ha F H σ ρ S _ _ q e1 fun v F1 H1 x1 w1 => ?_
      refine hb F1 H1 σ ρ S _ _ (q.xt x1) e2 fun v2 F2 H2 x2 w2 => ?_
      have b := big62_ok hz.1.1
      have b2 := big62_ok hz.1.2
      refine ⟨m, n, w1.int, w2.int, ⟨b.1, b.2, b2.1, b2.2, hz.2⟩, ?_⟩
      exact own_list x2.fle (reps_rg (K := k.K) (F := F2) m n) fun v F' H' T x w fr => h v F' H' T ((x1.trans x2).trans x) w ⟨fr.nd, fun a m => none_back (x1.trans x2).ex (fr.new a m), fr.off, fr.nofz⟩
    · cases e
  · cases e
end
end FM
namespace FM
open PySem L2 PyProof.Rows
/-! ### slots that are stored -/
theorem Envs.setD {k : Kc} {F H : Hp} {v : Option V} : ∀ {σ : L2.St} {ρ : List O} {S : List Addr} (j : Nat), Envs k F H σ ρ S → ∃ S', S'.Sublist S ∧ Envs k F H (σ.set j v) (ρ.set j .dead) S'
  | _, _, _, _, .nil => ⟨[], .slnil, .nil⟩
  | _, _, _, 0, .dead r => ⟨_, .refl _, .dead r⟩
  | _, _, _, 0, .cons h r => ⟨_, List.sublist_append_right _ _, .dead r⟩
  | _, _, _, j + 1, .dead r => by
    obtain ⟨S', m, q⟩ := Envs.setD j r
    exact ⟨S', m, .dead q⟩
  | _, _, _, j + 1, .cons (S := S1) h r => by
    obtain ⟨S', m, q⟩ := Envs.setD j r
    exact ⟨S1 ++ S', List.Sublist.append (.refl _) m, .cons h q⟩
theorem Envs.setO {k : Kc} {F H : Hp} {v : V} {o : O} {T : List Addr} (w : Own k F H v o T) : ∀ {σ : L2.St} {ρ : List O} {S : List Addr} (j : Nat), Envs k F H σ ρ S → (∃ S', S'.Sublist S ∧ ∃ U, U.Perm (T ++ S') ∧ Envs k F H (σ.set j (some v)) (ρ.set j o) U) ∨ ∃ S', S'.Sublist S ∧ Envs k F H (σ.set j (some v)) (ρ.set j o) S'
  | _, _, _, _, .nil => .inr ⟨[], .slnil, .nil⟩
  | _, _, S, 0, .dead r => .inl ⟨S, .refl _, T ++ S, .refl _, .cons w r⟩
  | _, _, _, 0, .cons (T := S2) h r => .inl ⟨S2, List.sublist_append_right _ _, T ++ S2, .refl _, .cons w r⟩
  | _, _, _, j + 1, .dead r => by
    rcases Envs.setO w j r with ⟨S', m, U, p, q⟩ | ⟨S2, m, q⟩
    · exact .inl ⟨S', m, U, p, .dead q⟩
    · exact .inr ⟨S2, m, .dead q⟩
  | _, _, _, j + 1, .cons (S := S1) h r => by
    rcases Envs.setO w j r with ⟨S', m, U, p, q⟩ | ⟨S2, m, q⟩
    · refine .inl ⟨S1 ++ S', List.Sublist.append (.refl _) m, S1 ++ U, ?_, .cons h q⟩
      exact (List.Perm.append_left S1 p).trans (by
        rw [← List.append_assoc, ← List.append_assoc]
        exact List.Perm.append_right _ List.perm_append_comm)
    · exact .inr ⟨S1 ++ S2, List.Sublist.append (.refl _) m, .cons h q⟩
theorem Envs.setR {k : Kc} {F H : Hp} {v : V} {d : PD} (w : Rep k.K F v d) : ∀ {σ : L2.St} {ρ : List O} {S : List Addr} (j : Nat), Envs k F H σ ρ S → ∃ S', S'.Sublist S ∧ Envs k F H (σ.set j (some v)) (ρ.set j (.fz d)) S'
  | _, _, _, _, .nil => ⟨[], .slnil, .nil⟩
  | _, _, S, 0, .dead r => ⟨[] ++ S, .refl _, .cons (.fz w) r⟩
  | _, _, _, 0, .cons (T := S2) h r => ⟨[] ++ S2, List.sublist_append_right _ _, .cons (.fz w) r⟩
  | _, _, _, j + 1, .dead r => by
    obtain ⟨S', m, q⟩ := Envs.setR w j r
    exact ⟨S', m, .dead q⟩
  | _, _, _, j + 1, .cons (S := S1) h r => by
    obtain ⟨S', m, q⟩ := Envs.setR w j r
    exact ⟨S1 ++ S', List.Sublist.append (.refl _) m, .cons h q⟩
def wipeO (ρ : List O) : List Nat → List O
  | [] => ρ
  | v :: vs => (wipeO ρ vs).set v .dead
theorem Envs.wipe {k : Kc} {F H : Hp} {σ : L2.St} {ρ : List O} {S : List Addr} (h : Envs k F H σ ρ S) : ∀ vs : List Nat, ∃ S', (∀ a ∈ S', a ∈ S) ∧ Envs k F H (L2.wipe σ vs) (wipeO ρ vs) S'
  | [] => ⟨S, fun _ m => m, h⟩
  | v :: vs => by
    obtain ⟨S1, m1, h1⟩ := Envs.wipe h vs
    obtain ⟨S2, m2, h2⟩ := Envs.setD (v := none) v h1
    exact ⟨S2, fun a z => m1 a (m2.subset z), h2⟩
theorem wipe_set {σ : L2.St} {j : Nat} {x : Option V} : ∀ {vs : List Nat}, j ∈ vs → L2.wipe (σ.set j x) vs = L2.wipe σ vs
  | [], m => by cases m
  | v :: vs, m => by
    unfold L2.wipe
    by_cases e : j ∈ vs
    · rw [wipe_set e]
    · have ej : j = v := (List.mem_cons.mp m).resolve_right e
      subst ej
      have comm : ∀ vs : List Nat, j ∉ vs → L2.wipe (σ.set j x) vs = (L2.wipe σ vs).set j x := by
        intro vs
        induction vs with
        | nil => intro _; rfl
        | cons w ws ih =>
          intro hn
          have h1 : j ≠ w := fun z => hn (by rw [z]; exact List.mem_cons_self)
          have h2 : j ∉ ws := fun z => hn (List.mem_cons_of_mem _ z)
          unfold L2.wipe
          rw [ih h2, List.set_comm _ _ h1]
      rw [comm vs e, List.set_set]
theorem wipe_wipe {σ : L2.St} : ∀ (vs ws : List Nat), (∀ j ∈ vs, j ∈ ws) → L2.wipe (L2.wipe σ vs) ws = L2.wipe σ ws
  | [], _, _ => rfl
  | v :: vs, ws, m => by
    show L2.wipe ((L2.wipe σ vs).set v none) ws = _
    rw [wipe_set (m v List.mem_cons_self)]
    exact wipe_wipe vs ws fun j z => m j (List.mem_cons_of_mem _ z)

/-- two slot lists that agree but at J -/
structure Agr (J : List Nat) (σ σ' : L2.St) : Prop where
  len : σ'.length = σ.length
  at_ : ∀ i, i ∉ J → σ'[i]? = σ[i]?
theorem Agr.refl {J : List Nat} {σ : L2.St} : Agr J σ σ := ⟨rfl, fun _ _ => rfl⟩
theorem Agr.trans {J J' : List Nat} {σ σ1 σ2 : L2.St} (a : Agr J σ σ1) (b : Agr J' σ1 σ2) : Agr (J ++ J') σ σ2 :=
  ⟨b.len.trans a.len, fun i n => (b.at_ i fun m => n (List.mem_append_right _ m)).trans (a.at_ i fun m => n (List.mem_append_left _ m))⟩
theorem Agr.set {σ : L2.St} {j : Nat} {x : Option V} : Agr [j] σ (σ.set j x) := ⟨List.length_set, fun i n => by
  rw [List.getElem?_set_ne]
  intro e
  exact n (by rw [e]; exact List.mem_cons_self)⟩
theorem wipe_in {σ : L2.St} {i : Nat} : ∀ {vs : List Nat}, i ∈ vs → i < σ.length → (L2.wipe σ vs)[i]? = some none
  | [], m, _ => by cases m
  | v :: vs, m, h => by
    unfold L2.wipe
    by_cases e : v = i
    · subst e
      rw [List.getElem?_set_self (by rw [wipe_length]; exact h)]
    · rw [List.getElem?_set_ne e]
      exact wipe_in ((List.mem_cons.mp m).resolve_left fun z => e z.symm) h
theorem Agr.wipe {J vs : List Nat} {σ σ' : L2.St} (a : Agr J σ σ') (h : ∀ j ∈ J, j ∈ vs) : L2.wipe σ' vs = L2.wipe σ vs := by
  apply List.ext_getElem?
  intro i
  by_cases m : i ∈ vs
  · by_cases l : i < σ.length
    · rw [wipe_in m l, wipe_in m (by rw [a.len]; exact l)]
    · rw [List.getElem?_eq_none (by rw [wipe_length, a.len]; omega), List.getElem?_eq_none (by rw [wipe_length]; omega)]
  · rw [wipe_out m, wipe_out m]
    exact a.at_ i fun z => m (h i z)
/-! ### targets, quiet -/
abbrev QG := PD → List O → Option (List O)
def TGq (k : Kc) (g : TG) (f : QG) (J : List Nat) : Prop := ∀ (F H : Hp) (σ : L2.St) (ρ ρ' : List O) (S : List Addr) (v : V) (d : PD) (Q : L2.St → Hp → Prop), Qs k F H σ ρ S → Rep k.K F v d → f d ρ = some ρ' →
  (∀ σ' S', Qs k F H σ' ρ' S' → S'.Sublist S → Agr J σ σ' → Q σ' H) → g v σ H Q
def TGsq (k : Kc) (g : TGs) (f : List PD → List O → Option (List O)) (J : List Nat) : Prop := ∀ (F H : Hp) (σ : L2.St) (ρ ρ' : List O) (S : List Addr) (vs : List V) (ds : List PD) (Q : L2.St → Hp → Prop), Qs k F H σ ρ S → Reps k.K F vs ds → f ds ρ = some ρ' →
  (∀ σ' S', Qs k F H σ' ρ' S' → S'.Sublist S → Agr J σ σ' → Q σ' H) → g vs σ H Q
def fName (j : Nat) : QG := fun d ρ => some (ρ.set j (.fz d))
theorem tgq_name {k : Kc} {j : Nat} : TGq k (gName j) (fName j) [j] := by
  intro F H σ ρ ρ' S v d Q q r e h
  have e' := Option.some.inj e
  subst e'
  obtain ⟨S', m, w⟩ := q.env.setR r j
  exact h _ S' ⟨q.fle, w, fun a z => q.off a (m.subset z)⟩ m Agr.set
def fNil : List PD → List O → Option (List O) := fun ds ρ => match ds with
  | [] => some ρ
  | _ :: _ => none
def fCons (f : QG) (r : List PD → List O → Option (List O)) : List PD → List O → Option (List O) := fun ds ρ => match ds with
  | [] => none
  | d :: ds => match f d ρ with
    | none => none
    | some ρ' => r ds ρ'
def fTup (n : Nat) (f : List PD → List O → Option (List O)) : QG := fun d ρ => match d with
  | .tuple ds => if ds.length = n then f ds ρ else none
  | _ => none
theorem tgsq_nil {k : Kc} : TGsq k gNil fNil [] := by
  intro F H σ ρ ρ' S vs ds Q q r e h
  unfold fNil at e
  cases r with
  | nil =>
    have e' := Option.some.inj e
    subst e'
    exact ⟨rfl, h σ S q (.refl _) Agr.refl⟩
  | cons _ _ => cases e
theorem tgsq_cons {k : Kc} {g : TG} {gs : TGs} {f : QG} {fs : List PD → List O → Option (List O)} {J Js : List Nat} (h1 : TGq k g f J) (h2 : TGsq k gs fs Js) : TGsq k (gCons g gs) (fCons f fs) (J ++ Js) := by
  intro F H σ ρ ρ' S vs ds Q q r e h
  unfold fCons at e
  cases r with
  | nil => cases e
  | @cons v d vs ds rv rs =>
    simp only at e
    cases e1 : f d ρ with
    | none => rw [e1] at e; cases e
    | some ρ1 =>
      rw [e1] at e
      refine ⟨v, vs, rfl, h1 F H σ ρ ρ1 S v d _ q rv e1 fun σ1 S1 q1 m1 w1 => ?_⟩
      exact h2 F H σ1 ρ1 ρ' S1 vs ds Q q1 rs e fun σ2 S2 q2 m2 w2 => h σ2 S2 q2 (m2.trans m1) (w1.trans w2)
theorem tgq_tup {k : Kc} {gs : TGs} {fs : List PD → List O → Option (List O)} {J : List Nat} {n : Nat} (h1 : TGsq k gs fs J) : TGq k (gTup k.K n gs) (fTup n fs) J := by
  intro F H σ ρ ρ' S v d Q q r e h
  unfold fTup at e
  split at e
  · split at e
    · rename_i ds hn
      cases r with
      | tup a1 a2 => exact ⟨_, _, rfl, (tup_le q.fle a1).sq, by rw [a2.length]; exact hn, h1 F H σ ρ ρ' S _ ds Q q a2 e h⟩
      | dic _ _ e => cases e
      | dit _ _ e => cases e
    · cases e
  · cases e

/-! ### comprehensions of quiet items -/
def lcGo (f : QG) (c : List O → Option Bool) (e : QE) (ρ : List O) : List PD → Option (List PD)
  | [] => some []
  | x :: xs => match f x ρ with
    | none => none
    | some ρ1 => match c ρ1 with
      | none => none
      | some false => lcGo f c e ρ xs
      | some true => match e ρ1 with
        | some (.fz d) => (lcGo f c e ρ xs).map fun r => d :: r
        | _ => none
def qYes : List O → Option Bool := fun _ => some true
theorem ttv_yes {k : Kc} : TTv k tYes qYes := by
  intro F H σ ρ S b Q q e h
  have e' := Option.some.inj e
  subst e'
  exact h F H (Xt.refl q.fle)
def qLc (qi : QI) (f : QG) (c : List O → Option Bool) (e : QE) (vs : List Nat) : QE := fun ρ => match qi ρ with
  | none => none
  | some xs => if xs.length ≤ sizeLine then (lcGo f c e (wipeO ρ vs) xs).map .lst else none
theorem ten_lc {k : Kc} {wi : TI} {g : TG} {tt : TT} {te : TE} {vs : List Nat} {qi : QI} {f : QG} {c : List O → Option Bool} {qe : QE} {J : List Nat} (hi : TIv k wi qi) (hg : TGq k g f J) (hJ : ∀ j ∈ J, j ∈ vs) (ht : TTv k tt c) (he : TEv k te qe) :
    TEn k (tLc wi g tt te vs) (qLc qi f c qe vs) := by
  intro F H σ ρ S o Q q e h
  unfold qLc at e
  cases e1 : qi ρ with
  | none => rw [e1] at e; cases e
  | some xs =>
    rw [e1] at e
    simp only at e
    split at e
    · rename_i hz
      obtain ⟨ys, e2, e3⟩ := Option.map_eq_some_iff.mp e
      subst e3
      refine hi F H σ ρ S xs _ q e1 fun JJ F1 H1 x1 W => ?_
      have q1 := q.xt x1
      intro D hD
      have nD : ∀ {F2 H2 : Hp}, Xt F1 H1 F2 H2 → F2 D = none → Th H2 D → ∀ {F3 H3 : Hp}, Xt F2 H2 F3 H3 → F3 D = none := fun _ n t _ _ x => x.off n t
      have grow : ∀ {F2 H2 : Hp} (l : List V), Xt F1 H1 F2 H2 → F2 D = none → Xt F1 H1 F2 (upd H2 D (.lst l)) := fun {F2 H2} l x n => by
        refine ⟨fun a u z => ?_, x.sub, fun a u z => ?_, x.fresh⟩
        · rw [upd_ne (ne_of_none z hD)]; exact x.ex a u z
        · have ne : a ≠ D := fun w => by rw [w, n] at z; cases z
          rw [upd_ne ne]
          exact x.fle a u z
      let Pv : Nat → Hp → Prop := fun i H2 => ∃ F2 acc done rest, Xt F1 H1 F2 H2 ∧ F2 D = none ∧ H2 D = some (.lst acc) ∧ Reps k.K F2 acc done ∧ lcGo f c qe (wipeO ρ vs) (xs.drop i) = some rest ∧ done ++ rest = ys ∧ done.length ≤ i
      refine ⟨fun i m H2 => m = xs.length - i ∧ i ≤ xs.length ∧ Pv i H2, ⟨_, rfl, Nat.zero_le _, F1, [], [], ys, ?_, fle_none x1.fle hD, upd_same, .nil, ?_, rfl, Nat.le_refl _⟩, ?_⟩
      · exact grow [] (Xt.refl x1.fle) (fle_none x1.fle hD)
      · simpa using e2
      · rintro i m H2 ⟨rfl, hi2, F2, acc, done, rest, x2, n2, a2, r2, e4, e5, l2⟩
        by_cases hlt : i < xs.length
        · refine .inr ⟨W.goes i F2 H2 hlt x2 x2.fle, fun H3 => i + 1 ≤ xs.length ∧ Pv (i + 1) H3, fun H3 p3 => ⟨xs.length - (i + 1), by omega, rfl, p3⟩, fun x H3 y => ?_⟩
          obtain ⟨F3, x3, rx⟩ := W.yields i F2 H2 x H3 hlt x2 x2.fle y
          have x13 := x2.trans x3
          have q3 := (q1.xt x2).xt x3
          obtain ⟨S3, m3, w3⟩ := q3.env.wipe vs
          have qw : Qs k F3 H3 (L2.wipe σ vs) (wipeO ρ vs) S3 := ⟨x3.fle, w3, fun a z => q3.off a (m3 a z)⟩
          rw [List.drop_eq_getElem_cons hlt] at e4
          unfold lcGo at e4
          cases e6 : f xs[i] (wipeO ρ vs) with
          | none => rw [e6] at e4; cases e4
          | some ρ1 =>
            simp only [e6] at e4
            refine hg F3 H3 _ _ ρ1 S3 x xs[i] _ qw rx e6 fun σ4 S4 q4 m4 wp => ⟨by rw [wp.wipe hJ]; exact wipe_wipe vs vs fun _ z => z, ?_⟩
            cases e7 : c ρ1 with
            | none => rw [e7] at e4; cases e4
            | some b =>
              simp only [e7] at e4
              refine ht F3 H3 σ4 ρ1 S4 b _ q4 e7 fun F5 H5 x5 => ?_
              have aD3 : H3 D = some (.lst acc) := x3.ex _ _ a2
              have aD5 : H5 D = some (.lst acc) := x5.ex _ _ aD3
              have n3 : F3 D = none := x3.off n2 (rd_there (.inl a2))
              have n5 : F5 D = none := x5.off n3 (rd_there (.inl aD3))
              cases b with
              | false =>
                rw [if_neg (by decide)]
                exact ⟨hlt, F5, acc, done, rest, x13.trans x5, n5, aD5, (r2.sub x3.sub).sub x5.sub, e4, e5, by omega⟩
              | true =>
                rw [if_pos rfl]
                simp only at e4
                split at e4
                · rename_i d e8
                  obtain ⟨rest', e9, e10⟩ := Option.map_eq_some_iff.mp e4
                  refine he F5 H5 σ4 ρ1 S4 _ _ (q4.xt x5) e8 fun v F6 H6 x6 w6 => ?_
                  have aD6 : H6 D = some (.lst acc) := x6.ex _ _ aD5
                  have n6 : F6 D = none := x6.off n5 (rd_there (.inl aD5))
                  have racc := ((r2.sub x3.sub).sub x5.sub).sub x6.sub
                  refine ⟨acc, aD6, by rw [racc.length]; omega, hlt, F6, acc ++ [v], done ++ [d], rest', ?_, n6, upd_same, racc.append (.cons w6.rep .nil), e9, ?_, by rw [List.length_append]; simp; omega⟩
                  · exact grow _ ((x13.trans x5).trans x6) n6
                  · rw [← e5, ← e10]; simp
                · cases e4
        · have ei : i = xs.length := by omega
          subst ei
          rw [List.drop_length] at e4
          have e4' := Option.some.inj (show some [] = some rest from e4)
          subst e4'
          rw [List.append_nil] at e5
          subst e5
          refine .inl ⟨W.stops F2 H2 x2 x2.fle, ?_⟩
          refine h (.ref D) F2 H2 [D] (x1.trans x2) (.lst (.inl a2) r2) ⟨List.nodup_cons.mpr ⟨List.not_mem_nil, .nil⟩, (fun a z => ?_), (fun a z => ?_), (fun a z ob u z2 => ?_)⟩
          · rw [List.mem_singleton.mp z]; exact none_back x1.ex hD
          · rw [List.mem_singleton.mp z]; exact n2
          · rw [List.mem_singleton.mp z, a2] at z2; cases z2
    · cases e
end FM
namespace FM
open PySem L2 PyProof.Rows
/-! ### what is one's own, against the entry -/
structure Ent where
  F : Hp
  H : Hp
  S : List Addr
structure Fr (e : Ent) (F H : Hp) (S : List Addr) : Prop where
  fle : FLe F H
  nd : S.Nodup
  off : ∀ a ∈ S, F a = none
  there : ∀ a ∈ S, Th H a
  nofz : ∀ a ∈ S, ∀ o u, H a ≠ some (.frz o u)
  own : ∀ a ∈ S, a ∈ e.S ∨ e.H a = none
  f0 : Same e.F F
  fnew : ∀ a u, F a = some u → e.F a ≠ none ∨ a ∈ e.S ∨ e.H a = none ∨ (gnd u ∧ e.H a = some u)
  keep : ∀ a o, e.H a = some o → a ∉ e.S → H a = some o
  dom : ∀ a, e.H a ≠ none → H a ≠ none
theorem Th.ex {H H' : Hp} {a : Addr} (t : Th H a) (s : Same H H') : Th H' a := by
  cases q : H a with
  | none => exact absurd q t.1
  | some u =>
    have := s a u q
    refine ⟨by rw [this]; simp, fun w g z => ?_⟩
    rw [this] at z
    cases z
    exact t.2 _ g q
theorem Fr.mono {e : Ent} {F H : Hp} {S T : List Addr} (f : Fr e F H S) (nd : T.Nodup) (m : ∀ a ∈ T, a ∈ S) : Fr e F H T :=
  ⟨f.fle, nd, fun a z => f.off a (m a z), fun a z => f.there a (m a z), fun a z => f.nofz a (m a z), fun a z => f.own a (m a z), f.f0, f.fnew, f.keep, f.dom⟩
theorem Fr.perm {e : Ent} {F H : Hp} {S T : List Addr} (f : Fr e F H S) (p : T.Perm S) : Fr e F H T := f.mono (p.nodup_iff.mpr f.nd) fun a z => p.mem_iff.mp z
theorem Fr.sub {e : Ent} {F H : Hp} {S T : List Addr} (f : Fr e F H S) (p : T.Sublist S) : Fr e F H T := f.mono (p.nodup f.nd) fun a z => p.subset z
theorem Fr.xt {e : Ent} {F H F' H' : Hp} {S : List Addr} (f : Fr e F H S) (x : Xt F H F' H') : Fr e F' H' S where
  fle := x.fle
  nd := f.nd
  off := fun a m => x.off (f.off a m) (f.there a m)
  there := fun a m => (f.there a m).ex x.ex
  nofz := fun a m o u z => by
    cases q : H a with
    | none => exact (f.there a m).1 q
    | some w =>
      rw [x.ex a w q] at z
      cases z
      exact f.nofz a m o u q
  own := f.own
  f0 := f.f0.trans x.sub
  fnew := fun a u z => by
    rcases x.fresh a u z with q | q | ⟨g, q⟩
    · exact f.fnew a u q
    · refine .inr (.inr (.inl ?_))
      cases w : e.H a with
      | none => rfl
      | some y => exact absurd q (f.dom a (by rw [w]; simp))
    · cases w : e.H a with
      | none => exact .inr (.inr (.inl rfl))
      | some y =>
        by_cases m : a ∈ e.S
        · exact .inr (.inl m)
        · have := f.keep a y w m
          rw [q] at this
          cases this
          exact .inr (.inr (.inr ⟨g, rfl⟩))
  keep := fun a o z n => x.ex a o (f.keep a o z n)
  dom := fun a n => by
    cases q : H a with
    | none => exact absurd q (f.dom a n)
    | some u => rw [x.ex a u q]; simp
theorem Fr.fresh {e : Ent} {F H F' H' : Hp} {S T : List Addr} (f : Fr e F H S) (x : Xt F H F' H') (t : Fresh F' H H' T) (th : ∀ a ∈ T, Th H' a) : Fr e F' H' (T ++ S) :=
  have g := f.xt x
  { g with
    nd := List.nodup_append.mpr ⟨t.nd, g.nd, fun a h1 b h2 z => (f.there b h2).1 (by rw [← z]; exact t.new a h1)⟩
    off := fun a m => (List.mem_append.mp m).elim (t.off a) (g.off a)
    there := fun a m => (List.mem_append.mp m).elim (th a) (g.there a)
    nofz := fun a m => (List.mem_append.mp m).elim (t.nofz a) (g.nofz a)
    own := fun a m => (List.mem_append.mp m).elim (fun z => .inr (by
      cases w : e.H a with
      | none => rfl
      | some y => exact absurd (t.new a z) (f.dom a (by rw [w]; simp)))) (g.own a) }
theorem Fr.freeze {e : Ent} {F H : Hp} {S T : List Addr} (f : Fr e F H (T ++ S)) : Fr e (over F H T) H S where
  fle := over_le f.fle
  nd := (List.nodup_append.mp f.nd).2.1
  off := fun a m => by
    have n : a ∉ T := fun z => (List.nodup_append.mp f.nd).2.2 a z a m rfl
    rw [over_out n]
    exact f.off a (List.mem_append_right _ m)
  there := fun a m => f.there a (List.mem_append_right _ m)
  nofz := fun a m => f.nofz a (List.mem_append_right _ m)
  own := fun a m => f.own a (List.mem_append_right _ m)
  f0 := f.f0.trans (over_sub fun a m => f.off a (List.mem_append_left _ m))
  fnew := fun a u z => by
    rcases over_fresh z with q | q
    · exact f.fnew a u q
    · rcases f.own a (List.mem_append_left _ q) with w | w
      · exact .inr (.inl w)
      · exact .inr (.inr (.inl w))
  keep := f.keep
  dom := f.dom
/-- an owned object changes -/
theorem Fr.write {e : Ent} {F H : Hp} {S : List Addr} {a : Addr} {o : HO} (f : Fr e F H S) (m : a ∈ S) (hn : ∀ ob u, o ≠ .frz ob u) (hg : ¬ gnd o := by rintro ⟨z, e⟩; cases e) : Fr e F (upd H a o) S where
  fle := fun b u z => by
    have ne : b ≠ a := fun w => by rw [w, f.off a m] at z; cases z
    rw [upd_ne ne]
    exact f.fle b u z
  nd := f.nd
  off := f.off
  there := fun b z => by
    by_cases w : b = a
    · rw [w]
      refine ⟨by rw [upd_same]; simp, fun w g z => ?_⟩
      rw [upd_same] at z
      cases z
      exact hg g
    · refine ⟨by rw [upd_ne w]; exact (f.there b z).1, fun w2 g z2 => ?_⟩
      rw [upd_ne w] at z2
      exact (f.there b z).2 w2 g z2
  nofz := fun b z ob u q => by
    by_cases w : b = a
    · rw [w, upd_same] at q; cases q; exact hn _ _ rfl
    · rw [upd_ne w] at q; exact f.nofz b z ob u q
  own := f.own
  f0 := f.f0
  fnew := f.fnew
  keep := fun b u z n => by
    have ne : b ≠ a := fun w => by
      subst w
      rcases f.own b m with q | q
      · exact n q
      · rw [z] at q; cases q
    rw [upd_ne ne]
    exact f.keep b u z n
  dom := fun b n => by
    by_cases w : b = a
    · rw [w, upd_same]; simp
    · rw [upd_ne w]; exact f.dom b n
/-- behind a call that was handed S0 -/
theorem Fr.call {e : Ent} {F H F' H' : Hp} {S R S' : List Addr} (f : Fr e F H (S ++ R)) (c : Fr ⟨F, H, S⟩ F' H' S') : Fr e F' H' (S' ++ R) ∧ At R H H' := by
  have nd := List.nodup_append.mp f.nd
  have notS : ∀ a ∈ R, a ∉ S := fun a m z => nd.2.2 a z a m rfl
  have at_ : At R H H' := fun a m u z => c.keep a u z (notS a m)
  have eown : ∀ a, a ∈ S ∨ H a = none → a ∈ e.S ∨ e.H a = none := fun a z => by
    rcases z with z | z
    · exact f.own a (List.mem_append_left _ z)
    · refine .inr ?_
      cases w : e.H a with
      | none => rfl
      | some y => exact absurd z (f.dom a (by rw [w]; simp))
  refine ⟨⟨c.fle, ?_, fun a m => ?_, fun a m => ?_, fun a m o u z => ?_, fun a m => ?_, f.f0.trans c.f0, fun a u z => ?_, fun a o z n => ?_, fun a n => c.dom a (f.dom a n)⟩, at_⟩
  · refine List.nodup_append.mpr ⟨c.nd, nd.2.1, fun a h1 b h2 z => ?_⟩
    subst z
    rcases c.own a h1 with q | q
    · exact notS a h2 q
    · exact (f.there a (List.mem_append_right _ h2)).1 q
  · rcases List.mem_append.mp m with m | m
    · exact c.off a m
    · cases w : F' a with
      | none => rfl
      | some u =>
        rcases c.fnew a u w with q | q | q | ⟨g, q⟩
        · exact absurd (f.off a (List.mem_append_right _ m)) q
        · exact absurd q (notS a m)
        · exact absurd q (f.there a (List.mem_append_right _ m)).1
        · exact absurd q ((f.there a (List.mem_append_right _ m)).2 u g)
  · rcases List.mem_append.mp m with m | m
    · exact c.there a m
    · have th := f.there a (List.mem_append_right _ m)
      cases w : H a with
      | none => exact absurd w th.1
      | some y =>
        have w2 := at_ a m y w
        refine ⟨by rw [w2]; simp, fun u g z => ?_⟩
        rw [w2] at z
        cases z
        exact th.2 _ g w
  · rcases List.mem_append.mp m with m | m
    · exact c.nofz a m o u z
    · cases w : H a with
      | none => exact (f.there a (List.mem_append_right _ m)).1 w
      | some y =>
        rw [at_ a m y w] at z
        cases z
        exact f.nofz a (List.mem_append_right _ m) o u w
  · rcases List.mem_append.mp m with m | m
    · exact eown a (c.own a m)
    · exact f.own a (List.mem_append_right _ m)
  · rcases c.fnew a u z with q | q | q | ⟨g, q⟩
    · cases w : F a with
      | none => exact absurd w q
      | some y =>
        have := c.f0 a y w
        rw [z] at this
        cases this
        exact f.fnew a _ w
    · rcases eown a (.inl q) with r | r
      · exact .inr (.inl r)
      · exact .inr (.inr (.inl r))
    · rcases eown a (.inr q) with r | r
      · exact .inr (.inl r)
      · exact .inr (.inr (.inl r))
    · cases w : e.H a with
      | none => exact .inr (.inr (.inl rfl))
      | some y =>
        by_cases m : a ∈ e.S
        · exact .inr (.inl m)
        · have := f.keep a y w m
          rw [show H a = some u from q] at this
          cases this
          exact .inr (.inr (.inr ⟨g, rfl⟩))
  · refine c.keep a o (f.keep a o z n) fun q => ?_
    rcases f.own a (List.mem_append_left _ q) with w | w
    · exact n w
    · rw [z] at w; cases w
/-- entries compose -/
theorem Fr.trans {e : Ent} {F H F' H' : Hp} {S S' : List Addr} (f : Fr e F H S) (c : Fr ⟨F, H, S⟩ F' H' S') : Fr e F' H' S' := by
  have f' : Fr e F H (S ++ []) := by rw [List.append_nil]; exact f
  have := (f'.call c).1
  rw [List.append_nil] at this
  exact this
theorem Fr.refl {e : Ent} {F H : Hp} {S : List Addr} (f : Fr e F H S) : Fr ⟨F, H, S⟩ F H S :=
  ⟨f.fle, f.nd, f.off, f.there, f.nofz, fun _ m => .inl m, Same.refl _, fun a u z => .inl (by show F a ≠ none; rw [z]; simp), fun _ _ z _ => z, fun _ n => n⟩

/-! ### the state of a body -/
/-- an exception: its class, what its own fields hold -/
structure Ex where
  c : Nat
  fs : Option (List (Str × PD))
structure StW (k : Kc) (P : List (Nat × V)) (e : Ent) (σ : L2.St) (ρ : List O) (vs : List V) (os : List O) (F H : Hp) (S1 S2 : List Addr) : Prop where
  env : Envs k F H σ ρ S1
  tmp : Owns k F H vs os S2
  fr : Fr e F H (S1 ++ S2)
  pin : ∀ p ∈ P, σ[p.1]? = some (some p.2)
def St (k : Kc) (P : List (Nat × V)) (e : Ent) (σ : L2.St) (ρ : List O) (vs : List V) (os : List O) (H : Hp) : Prop := ∃ F S1 S2, StW k P e σ ρ vs os F H S1 S2
inductive RepF (K : Frag) (F : Hp) : List (Str × V) → List (Str × PD) → Prop
  | nil : RepF K F [] []
  | cons {x : Str} {v : V} {d : PD} {vs : List (Str × V)} {ds : List (Str × PD)} : Rep K F v d → RepF K F vs ds → RepF K F ((x, v) :: vs) ((x, d) :: ds)
def XRep (k : Kc) (F H : Hp) (x : Ex) (c : Value) (d : Option Addr) : Prop := c = .ref (k.cl x.c) ∧ match x.fs with
  | none => d = none
  | some fs => ∃ dx vs, d = some dx ∧ H dx = some (.xd vs) ∧ RepF k.K F vs fs
def StX (k : Kc) (P : List (Nat × V)) (e : Ent) (σ : L2.St) (ρ : List O) (vs : List V) (os : List O) (x : Ex) (c : Value) (d : Option Addr) (H : Hp) : Prop := ∃ F S1 S2, StW k P e σ ρ vs os F H S1 S2 ∧ XRep k F H x c d
inductive R (α : Type) where
  | ok (a : α) (ρ : List O)
  | exc (x : Ex) (ρ : List O)
  | bad
abbrev M (α : Type) := List O → R α
def ROk {α β : Type} (k : Kc) (P : List (Nat × V)) (e : Ent) (σ : L2.St) (vs : List V) (os : List O) (E : XK) (good : α → List O → Prop) : R α → Prop
  | .ok a ρ => good a ρ
  | .exc x ρ => ∀ c d H, StX k P e σ ρ vs os x c d H → E c d H
  | .bad => False
def TEm (k : Kc) (E : XK) (t : TE) (m : M O) : Prop := ∀ (P : List (Nat × V)) (e : Ent) (σ : L2.St) (ρ : List O) (vs : List V) (os : List O) (H : Hp) (Q : VK), St k P e σ ρ vs os H →
  ROk (β := Unit) k P e σ vs os E (fun o ρ' => ∀ v H', St k P e σ ρ' (v :: vs) (o :: os) H' → Q v H') (m ρ) → t σ H Q
def TTm (k : Kc) (E : XK) (t : TT) (m : M Bool) : Prop := ∀ (P : List (Nat × V)) (e : Ent) (σ : L2.St) (ρ : List O) (vs : List V) (os : List O) (H : Hp) (Q : Bool → Hp → Prop), St k P e σ ρ vs os H →
  ROk (β := Unit) k P e σ vs os E (fun b ρ' => ∀ H', St k P e σ ρ' vs os H' → Q b H') (m ρ) → t σ H Q
/-- arguments: Rf says which are slots handed on -/
def RefsAt (σ : L2.St) : List (Option Nat) → List V → Prop
  | [], [] => True
  | none :: as, _ :: ws => RefsAt σ as ws
  | some i :: as, w :: ws => σ[i]? = some (some w) ∧ RefsAt σ as ws
  | _, _ => False
def TAm (k : Kc) (E : XK) (t : TA) (as : List (Option Nat)) (m : M (List O)) : Prop := ∀ (P : List (Nat × V)) (e : Ent) (σ : L2.St) (ρ : List O) (vs : List V) (os : List O) (H : Hp) (Q : List V → Hp → Prop), St k P e σ ρ vs os H →
  ROk (β := Unit) k P e σ vs os E (fun xs ρ' => ∀ ws H', St k P e σ ρ' (ws ++ vs) (xs ++ os) H' → ws.length = xs.length → RefsAt σ as ws → Q ws H') (m ρ) → t σ H Q

theorem StW.qs {k : Kc} {P : List (Nat × V)} {e : Ent} {σ : L2.St} {ρ : List O} {vs : List V} {os : List O} {F H : Hp} {S1 S2 : List Addr} (s : StW k P e σ ρ vs os F H S1 S2) : Qs k F H σ ρ S1 :=
  ⟨s.fr.fle, s.env, fun a m => s.fr.off a (List.mem_append_left _ m)⟩
theorem StW.xt {k : Kc} {P : List (Nat × V)} {e : Ent} {σ : L2.St} {ρ : List O} {vs : List V} {os : List O} {F H F' H' : Hp} {S1 S2 : List Addr} (s : StW k P e σ ρ vs os F H S1 S2) (x : Xt F H F' H') : StW k P e σ ρ vs os F' H' S1 S2 :=
  ⟨s.env.xt x, s.tmp.mono x.sub (At.of x.ex), s.fr.xt x, s.pin⟩
/-- a new value beside -/
theorem StW.push {k : Kc} {P : List (Nat × V)} {e : Ent} {σ : L2.St} {ρ : List O} {vs : List V} {os : List O} {F H F' H' : Hp} {S1 S2 T : List Addr} {v : V} {o : O} (s : StW k P e σ ρ vs os F H S1 S2) (x : Xt F H F' H') (w : Own k F' H' v o T) (t : Fresh F' H H' T) :
    StW k P e σ ρ (v :: vs) (o :: os) F' H' S1 (T ++ S2) := by
  have s' := s.xt x
  refine ⟨s'.env, .cons w s'.tmp, ?_, s.pin⟩
  refine (s.fr.fresh x t w.there).perm ?_
  rw [← List.append_assoc, ← List.append_assoc]
  exact List.Perm.append_right _ List.perm_append_comm
def mLift (q : QE) : M O := fun ρ => match q ρ with
  | some (.fz d) => .ok (.fz d) ρ
  | _ => .bad
def mNew (q : QE) : M O := fun ρ => match q ρ with
  | some o => .ok o ρ
  | none => .bad
section
variable {k : Kc} {E : XK} {t ta tb te : TE} {q : QE} {m m1 m2 : M O}
theorem tem_new (h : TEn k t q) : TEm k E t (mNew q) := by
  intro P e σ ρ vs os H Q s r
  obtain ⟨F, S1, S2, s⟩ := s
  unfold mNew at r
  cases e1 : q ρ with
  | none => rw [e1] at r; exact r.elim
  | some o =>
    rw [e1] at r
    exact h F H σ ρ S1 o Q s.qs e1 fun v F' H' T x w f => r v H' ⟨F', S1, T ++ S2, s.push x w f⟩
theorem tem_lift (h : TEv k t q) : TEm k E t (mLift q) := by
  intro P e σ ρ vs os H Q s r
  obtain ⟨F, S1, S2, s⟩ := s
  unfold mLift at r
  split at r
  · rename_i d e1
    exact h F H σ ρ S1 _ Q s.qs e1 fun v F' H' x w => r v H' ⟨F', S1, [] ++ S2, s.push x (.fz w.rep) ⟨.nil, (fun a m => by cases m), (fun a m => by cases m), (fun a m => by cases m)⟩⟩
  · exact r.elim
/-- what is one's own, frozen -/
def frzM (m : M O) : M O := fun ρ => match m ρ with
  | .ok o ρ' => match toPD o with
    | some d => .ok (.fz d) ρ'
    | none => .bad
  | r => r
theorem StW.frz {P : List (Nat × V)} {e : Ent} {σ : L2.St} {ρ : List O} {vs : List V} {os : List O} {F H : Hp} {S1 S2 : List Addr} {v : V} {o : O} {d : PD} (s : StW k P e σ ρ (v :: vs) (o :: os) F H S1 S2) (e1 : toPD o = some d) :
    St k P e σ ρ (v :: vs) (.fz d :: os) H := by
  obtain ⟨env, tmp, fr, pin⟩ := s
  cases tmp with
  | @cons _ _ _ _ T U w r =>
    have fr' : Fr e F H (T ++ (S1 ++ U)) := fr.perm (by
      rw [← List.append_assoc, ← List.append_assoc]
      exact List.Perm.append_right _ List.perm_append_comm)
    have f2 := fr'.freeze
    have off : ∀ a ∈ T, F a = none := fun a m => fr'.off a (List.mem_append_left _ m)
    exact ⟨over F H T, S1, [] ++ U, env.mono (over_sub off) (At.of (Same.refl _)), .cons (.fz (w.freeze off e1)) (r.mono (over_sub off) (At.of (Same.refl _))), f2, pin⟩
theorem tem_frz (h : TEm k E t m) : TEm k E t (frzM m) := by
  intro P e σ ρ vs os H Q s r
  refine h P e σ ρ vs os H Q s ?_
  unfold frzM at r
  cases e1 : m ρ with
  | ok o ρ' =>
    rw [e1] at r
    simp only at r
    cases e2 : toPD o with
    | none => rw [e2] at r; exact r.elim
    | some d =>
      rw [e2] at r
      intro v H' s'
      obtain ⟨F, S1, S2, s'⟩ := s'
      exact r v H' (s'.frz e2)
  | exc x ρ' => rw [e1] at r; exact r
  | bad => rw [e1] at r; exact r
/-- two operands -/
def mOp (f : O → O → Option O) (m1 m2 : M O) : M O := fun ρ => match m1 ρ with
  | .ok (.fz d1) ρ1 => match m2 ρ1 with
    | .ok (.fz d2) ρ2 => match f (.fz d1) (.fz d2) with
      | some (.fz d) => .ok (.fz d) ρ2
      | _ => .bad
    | .ok _ _ => .bad
    | .exc x ρ2 => .exc x ρ2
    | .bad => .bad
  | .ok _ _ => .bad
  | .exc x ρ1 => .exc x ρ1
  | .bad => .bad
theorem StX.pop {P : List (Nat × V)} {e : Ent} {σ : L2.St} {ρ : List O} {vs : List V} {os : List O} {v : V} {o : O} {x : Ex} {c : Value} {d : Option Addr} {H : Hp} (s : StX k P e σ ρ (v :: vs) (o :: os) x c d H) : StX k P e σ ρ vs os x c d H := by
  obtain ⟨F, S1, S2, ⟨env, tmp, fr, pin⟩, xr⟩ := s
  cases tmp with
  | @cons _ _ _ _ T U w r => exact ⟨F, S1, U, ⟨env, r, fr.sub (List.Sublist.append (.refl _) (List.sublist_append_right _ _)), pin⟩, xr⟩
theorem St.pop {P : List (Nat × V)} {e : Ent} {σ : L2.St} {ρ : List O} {vs : List V} {os : List O} {v : V} {o : O} {H : Hp} (s : St k P e σ ρ (v :: vs) (o :: os) H) : St k P e σ ρ vs os H := by
  obtain ⟨F, S1, S2, ⟨env, tmp, fr, pin⟩⟩ := s
  cases tmp with
  | @cons _ _ _ _ T U w r => exact ⟨F, S1, U, ⟨env, r, fr.sub (List.Sublist.append (.refl _) (List.sublist_append_right _ _)), pin⟩⟩
theorem StW.top {P : List (Nat × V)} {e : Ent} {σ : L2.St} {ρ : List O} {vs : List V} {os : List O} {F H : Hp} {S1 S2 : List Addr} {v : V} {d : PD} (s : StW k P e σ ρ (v :: vs) (.fz d :: os) F H S1 S2) : Rep k.K F v d ∧ StW k P e σ ρ vs os F H S1 S2 := by
  obtain ⟨env, tmp, fr, pin⟩ := s
  cases tmp with
  | cons w r =>
    cases w with
    | fz w => exact ⟨w, ⟨env, r, fr, pin⟩⟩
theorem tem_op {r : R2} {f : O → O → Option O} (h1 : TEm k E ta m1) (h2 : TEm k E tb m2) (hr : OpV k r f) : TEm k E (tOp r ta tb) (mOp f m1 m2) := by
  intro P e σ ρ vs os H Q s g
  refine h1 P e σ ρ vs os H _ s ?_
  unfold mOp at g
  cases e1 : m1 ρ with
  | bad => rw [e1] at g; exact g
  | exc x ρ1 => rw [e1] at g; exact g
  | ok o1 ρ1 =>
    rw [e1] at g
    intro v H1 s1
    cases o1 with
    | fz d1 =>
      simp only at g
      refine h2 P e σ ρ1 _ _ H1 _ s1 ?_
      cases e2 : m2 ρ1 with
      | bad => rw [e2] at g; exact g
      | exc x ρ2 =>
        rw [e2] at g
        exact fun c d H' sx => g c d H' sx.pop
      | ok o2 ρ2 =>
        rw [e2] at g
        intro w H2 s2
        cases o2 with
        | fz d2 =>
          simp only at g
          obtain ⟨F, S1, S2, s2⟩ := s2
          obtain ⟨r2, s3⟩ := s2.top
          obtain ⟨r1, s4⟩ := s3.top
          split at g
          · rename_i d ed
            refine hr F H2 [] v w _ _ _ Q s4.fr.fle (fun a m => by cases m) (fun a m => by cases m) (.fz r1) (.fz r2) ed fun z F' H' x wz => g z H' ⟨F', S1, [] ++ S2, s4.push x (.fz wz.rep) ⟨.nil, (fun a m => by cases m), (fun a m => by cases m), (fun a m => by cases m)⟩⟩
          · exact g.elim
        | _ => exact g.elim
    | _ => exact g.elim
theorem Envs.slot {F H : Hp} {σ : L2.St} {ρ : List O} {S : List Addr} {i : Nat} {o : O} (h : Envs k F H σ ρ S) (e : qVar i ρ = some o) : ∃ v, σ[i]? = some (some v) ∧ Vw k F H S v o := by
  have e1 : ρ[i]? = some o ∧ o ≠ .dead := by
    unfold qVar at e
    split at e
    · cases e
    · rename_i hne
      refine ⟨e, fun z => hne ?_⟩
      rw [e, z]
  rcases h.get e1.1 with z | z
  · exact absurd z e1.2
  · exact z
end
end FM
namespace FM
open PySem L2 PyProof.Rows
/-! ### parts of a footprint -/
def Sbp (T S : List Addr) : Prop := ∃ U, (T ++ U).Perm S
theorem Sbp.fr {e : Ent} {F H : Hp} {S T : List Addr} (f : Fr e F H S) (h : Sbp T S) : Fr e F H T := by
  obtain ⟨U, p⟩ := h
  exact (f.perm p).sub (List.sublist_append_left _ _)
theorem Sbp.of_count {T S : List Addr} (h : ∀ a, T.count a ≤ S.count a) : Sbp T S := by
  induction T generalizing S with
  | nil => exact ⟨S, .refl _⟩
  | cons a T ih =>
    have ha : a ∈ S := List.count_pos_iff.mp (by
      have := h a
      rw [List.count_cons_self] at this
      omega)
    obtain ⟨U, p⟩ := ih (S := S.erase a) fun b => by
      have hb := h b
      rw [List.count_erase]
      rw [List.count_cons] at hb
      by_cases e : (a == b) = true
      · have eq : a = b := by simpa using e
        subst eq
        simp only [beq_self_eq_true, if_true] at hb ⊢
        omega
      · have ne : ¬ a = b := by simpa using e
        simp only [e] at hb ⊢
        have e2 : (b == a) = false := by simpa using fun z => ne z.symm
        simp at hb ⊢
        omega
    refine ⟨U, ?_⟩
    exact (List.Perm.cons a p).trans (List.perm_cons_erase ha).symm
theorem Sbp.count {T S : List Addr} (h : Sbp T S) (a : Addr) : T.count a ≤ S.count a := by
  obtain ⟨U, p⟩ := h
  have := p.count_eq a
  rw [List.count_append] at this
  omega
theorem Sbp.sub {T S : List Addr} (h : T.Sublist S) : Sbp T S := .of_count fun a => h.count_le a
theorem Sbp.perm {T S : List Addr} (h : T.Perm S) : Sbp T S := .of_count fun a => by rw [h.count_eq a]; exact Nat.le_refl _
theorem Sbp.mem {T S : List Addr} (h : Sbp T S) {a : Addr} (m : a ∈ T) : a ∈ S := List.count_pos_iff.mp (by
  have := h.count a
  have := List.count_pos_iff.mpr m
  omega)
theorem Owns.split {k : Kc} {F H : Hp} : ∀ {ws zs : List V} {xs ys : List O} {S : List Addr}, ws.length = xs.length → Owns k F H (ws ++ zs) (xs ++ ys) S → ∃ A B, S = A ++ B ∧ Owns k F H ws xs A ∧ Owns k F H zs ys B
  | [], _, [], _, S, _, h => ⟨[], S, rfl, .nil, h⟩
  | _ :: ws, _, _ :: xs, _, _, e, .cons (S := T) w r => by
    obtain ⟨A, B, e1, h1, h2⟩ := Owns.split (ws := ws) (xs := xs) (Nat.succ.inj e) r
    subst e1
    exact ⟨T ++ A, B, by rw [List.append_assoc], .cons w h1, h2⟩
theorem Owns.join {k : Kc} {F H : Hp} : ∀ {ws zs : List V} {xs ys : List O} {A B : List Addr}, Owns k F H ws xs A → Owns k F H zs ys B → ∃ S, S = A ++ B ∧ Owns k F H (ws ++ zs) (xs ++ ys) S
  | _, _, _, _, _, B, .nil, h => ⟨B, rfl, h⟩
  | _, _, _, _, _, B, .cons (S := T) (T := U) w r, h => by
    obtain ⟨S, e, q⟩ := Owns.join r h
    exact ⟨T ++ S, by rw [e, List.append_assoc], .cons w q⟩
theorem Envs.take {k : Kc} {F H : Hp} : ∀ {σ : L2.St} {ρ : List O} {S : List Addr} {i : Nat} {o : O}, Envs k F H σ ρ S → ρ[i]? = some o → o ≠ .dead → ∃ v T R, σ[i]? = some (some v) ∧ Own k F H v o T ∧ Envs k F H σ (ρ.set i .dead) R ∧ (T ++ R).Perm S
  | _, _, _, _, _, .nil, e, _ => by simp at e
  | _, _, _, 0, _, .dead r, e, n => by
    have e' : _ = _ := Option.some.inj (by simpa using e)
    exact absurd e'.symm n
  | _, _, _, 0, _, .cons h r, e, n => by
    have e' : _ = _ := Option.some.inj (by simpa using e)
    subst e'
    exact ⟨_, _, _, rfl, h, .dead r, .refl _⟩
  | _, _, _, i + 1, _, .dead r, e, n => by
    obtain ⟨v, T, R, h1, h2, h3, h4⟩ := Envs.take (i := i) r (by simpa using e) n
    exact ⟨v, T, R, by simpa using h1, h2, .dead h3, h4⟩
  | _, _, _, i + 1, _, .cons (S := S1) h r, e, n => by
    obtain ⟨v, T, R, h1, h2, h3, h4⟩ := Envs.take (i := i) r (by simpa using e) n
    refine ⟨v, T, S1 ++ R, by simpa using h1, h2, .cons h h3, List.perm_iff_count.mpr fun a => ?_⟩
    have := h4.count_eq a
    simp only [List.count_append] at this ⊢
    omega
theorem qVar_some {i : Nat} {ρ : List O} {o : O} (e : qVar i ρ = some o) : ρ[i]? = some o ∧ o ≠ .dead := by
  unfold qVar at e
  split at e
  · cases e
  · rename_i hne
    refine ⟨e, fun z => hne ?_⟩
    rw [e, z]
theorem Envs.put {k : Kc} {F H : Hp} {σ : L2.St} {ρ : List O} {S T : List Addr} {i : Nat} {v : V} {o : O} (h : Envs k F H σ ρ S) (hv : σ[i]? = some (some v)) (w : Own k F H v o T) : ∃ U, Sbp U (T ++ S) ∧ Envs k F H σ (ρ.set i o) U := by
  have es : σ.set i (some v) = σ := by
    apply List.ext_getElem?
    intro j
    rw [List.getElem?_set]
    split
    · rename_i e
      subst e
      split
      · exact hv.symm
      · rename_i hn
        rw [List.getElem?_eq_none (by omega)] at hv
        cases hv
    · rfl
  rcases Envs.setO w i h with ⟨S', m, U, p, q⟩ | ⟨S2, m, q⟩
  · rw [es] at q
    refine ⟨U, .of_count fun a => ?_, q⟩
    have h1 := p.count_eq a
    have h2 := m.count_le a
    simp only [List.count_append] at h1 ⊢
    omega
  · rw [es] at q
    refine ⟨S2, .of_count fun a => ?_, q⟩
    have h2 := m.count_le a
    simp only [List.count_append]
    omega
/-! ### arguments -/
def mNil : M (List O) := fun ρ => .ok [] ρ
def mCons (m1 : M O) (m2 : M (List O)) : M (List O) := fun ρ => match m1 ρ with
  | .ok o ρ1 => match m2 ρ1 with
    | .ok xs ρ2 => .ok (o :: xs) ρ2
    | .exc x ρ2 => .exc x ρ2
    | .bad => .bad
  | .exc x ρ1 => .exc x ρ1
  | .bad => .bad
def mRef (i : Nat) (m2 : M (List O)) : M (List O) := fun ρ => match qVar i ρ with
  | none => .bad
  | some _ => match m2 ρ with
    | .ok xs ρ2 => .ok (.dead :: xs) ρ2
    | .exc x ρ2 => .exc x ρ2
    | .bad => .bad
section
variable {k : Kc} {E : XK} {te : TE} {tl : TA} {m1 : M O} {m2 : M (List O)} {as : List (Option Nat)}
theorem tam_nil : TAm k E tNil [] mNil := by
  intro P e σ ρ vs os H Q s g
  exact g [] H s rfl trivial
theorem StW.rot {P : List (Nat × V)} {e : Ent} {σ : L2.St} {ρ : List O} {vs ws : List V} {os xs : List O} {F H : Hp} {S1 S2 : List Addr} {v : V} {o : O} (hl : ws.length = xs.length) (s : StW k P e σ ρ (ws ++ v :: vs) (xs ++ o :: os) F H S1 S2) :
    St k P e σ ρ ((v :: ws) ++ vs) ((o :: xs) ++ os) H := by
  obtain ⟨env, tmp, fr, pin⟩ := s
  obtain ⟨A, B, e1, h1, h2⟩ := Owns.split hl tmp
  subst e1
  cases h2 with
  | @cons _ _ _ _ T U w r =>
    obtain ⟨S, e2, h3⟩ := Owns.join (.cons w h1) r
    refine ⟨F, S1, S, env, h3, fr.perm ?_, pin⟩
    subst e2
    refine List.perm_iff_count.mpr fun a => ?_
    simp only [List.count_append]
    omega
theorem StX.drop {P : List (Nat × V)} {e : Ent} {σ : L2.St} {ρ : List O} {vs : List V} {os : List O} {v : V} {o : O} {x : Ex} {c : Value} {d : Option Addr} {H : Hp} (s : StX k P e σ ρ (v :: vs) (o :: os) x c d H) : StX k P e σ ρ vs os x c d H := s.pop
theorem tam_val (h1 : TEm k E te m1) (h2 : TAm k E tl as m2) : TAm k E (tCons te tl) (none :: as) (mCons m1 m2) := by
  intro P e σ ρ vs os H Q s g
  refine h1 P e σ ρ vs os H _ s ?_
  unfold mCons at g
  cases e1 : m1 ρ with
  | bad => rw [e1] at g; exact g
  | exc x ρ1 => rw [e1] at g; exact g
  | ok o ρ1 =>
    rw [e1] at g
    intro v H1 s1
    simp only at g
    refine h2 P e σ ρ1 _ _ H1 _ s1 ?_
    cases e2 : m2 ρ1 with
    | bad => rw [e2] at g; exact g
    | exc x ρ2 =>
      rw [e2] at g
      exact fun c d H' sx => g c d H' sx.pop
    | ok xs ρ2 =>
      rw [e2] at g
      intro ws H2 s2 hl hr
      obtain ⟨F, S1, S2, s2⟩ := s2
      exact g (v :: ws) H2 (s2.rot hl) (by simp [hl]) hr
theorem tam_ref {i : Nat} (h2 : TAm k E tl as m2) : TAm k E (tCons (tVar i) tl) (some i :: as) (mRef i m2) := by
  intro P e σ ρ vs os H Q s g
  unfold mRef at g
  cases e0 : qVar i ρ with
  | none => rw [e0] at g; exact g.elim
  | some o0 =>
    rw [e0] at g
    simp only at g
    obtain ⟨F0, S1, S2, s0⟩ := id s
    obtain ⟨v, hv, _⟩ := s0.env.slot e0
    refine ⟨v, hv, ?_⟩
    have s1 : St k P e σ ρ (v :: vs) (.dead :: os) H := ⟨F0, S1, [] ++ S2, s0.env, .cons .dead s0.tmp, s0.fr, s0.pin⟩
    refine h2 P e σ ρ _ _ H _ s1 ?_
    cases e2 : m2 ρ with
    | bad => rw [e2] at g; exact g
    | exc x ρ2 =>
      rw [e2] at g
      exact fun c d H' sx => g c d H' sx.pop
    | ok xs ρ2 =>
      rw [e2] at g
      intro ws H2 s2 hl hr
      obtain ⟨F, S1, S2, s2⟩ := s2
      exact g (v :: ws) H2 (s2.rot hl) (by simp [hl]) ⟨hv, hr⟩
end
def fillA : List (Option Nat) → List O → List O → Option (List O × List O)
  | [], [], ρ => some ([], ρ)
  | none :: as, x :: xs, ρ => match fillA as xs ρ with
    | none => none
    | some z => some (x :: z.1, z.2)
  | some i :: as, _ :: xs, ρ => match qVar i ρ with
    | none => none
    | some o => match fillA as xs (ρ.set i .dead) with
      | none => none
      | some z => some (o :: z.1, z.2)
  | _, _, _ => none
def backA : List (Option Nat) → List O → List O → List O
  | none :: as, _ :: xs, ρ => backA as xs ρ
  | some i :: as, o :: xs, ρ => backA as xs (ρ.set i o)
  | _, _, ρ => ρ
theorem fill_ok {k : Kc} {F H : Hp} {σ : L2.St} : ∀ {as : List (Option Nat)} {xs ρ ys ρ' : List O} {ws : List V} {S A : List Addr}, Envs k F H σ ρ S → Owns k F H ws xs A → RefsAt σ as ws → fillA as xs ρ = some (ys, ρ') →
    ∃ S' A', Envs k F H σ ρ' S' ∧ Owns k F H ws ys A' ∧ Sbp (A' ++ S') (A ++ S)
  | [], [], ρ, ys, ρ', ws, S, A, en, ow, _, e => by
    have e' := Option.some.inj e
    cases e'
    cases ow
    exact ⟨S, [], en, .nil, .perm (.refl _)⟩
  | none :: as, x :: xs, ρ, ys, ρ', _, S, _, en, .cons (S := T) (T := A2) w r, hr, e => by
    unfold fillA at e
    cases e1 : fillA as xs ρ with
    | none => rw [e1] at e; cases e
    | some z =>
      rw [e1] at e
      have e' := Option.some.inj e
      cases e'
      obtain ⟨S', A', h1, h2, h3⟩ := fill_ok en r (show RefsAt σ as _ from hr) e1
      refine ⟨S', T ++ A', h1, .cons w h2, .of_count fun a => ?_⟩
      have := h3.count a
      simp only [List.count_append] at this ⊢
      omega
  | some i :: as, x :: xs, ρ, ys, ρ', v :: ws, S, _, en, .cons (S := T) (T := A2) w r, hr, e => by
    unfold fillA at e
    cases e0 : qVar i ρ with
    | none => rw [e0] at e; cases e
    | some o =>
      rw [e0] at e
      simp only at e
      cases e1 : fillA as xs (ρ.set i .dead) with
      | none => rw [e1] at e; cases e
      | some z =>
        rw [e1] at e
        have e' := Option.some.inj e
        cases e'
        obtain ⟨hv, hr⟩ := hr
        obtain ⟨g1, g2⟩ := qVar_some e0
        obtain ⟨v', T', R, a1, a2, a3, a4⟩ := en.take g1 g2
        rw [hv] at a1
        cases a1
        obtain ⟨S', A', h1, h2, h3⟩ := fill_ok a3 r hr e1
        refine ⟨S', T' ++ A', h1, .cons a2 h2, .of_count fun a => ?_⟩
        have c1 := h3.count a
        have c2 := a4.count_eq a
        simp only [List.count_append] at c1 c2 ⊢
        omega
  | [], _ :: _, _, _, _, _, _, _, _, _, _, e => by cases e
  | none :: _, [], _, _, _, _, _, _, _, _, _, e => by cases e
  | some _ :: _, [], _, _, _, _, _, _, _, _, _, e => by cases e
theorem back_ok {k : Kc} {F H : Hp} {σ : L2.St} : ∀ {as : List (Option Nat)} {outs ρ : List O} {ws : List V} {S A : List Addr}, Envs k F H σ ρ S → Owns k F H ws outs A → RefsAt σ as ws → ∃ S', Envs k F H σ (backA as outs ρ) S' ∧ Sbp S' (A ++ S)
  | [], outs, ρ, ws, S, A, en, ow, _ => ⟨S, en, .sub (List.sublist_append_right _ _)⟩
  | none :: as, [], ρ, ws, S, A, en, ow, _ => ⟨S, en, .sub (List.sublist_append_right _ _)⟩
  | some i :: as, [], ρ, ws, S, A, en, ow, _ => ⟨S, en, .sub (List.sublist_append_right _ _)⟩
  | none :: as, x :: xs, ρ, _, S, _, en, .cons (S := T) (T := A2) w r, hr => by
    obtain ⟨S', h1, h2⟩ := back_ok en r (show RefsAt σ as _ from hr)
    refine ⟨S', h1, .of_count fun a => ?_⟩
    have := h2.count a
    simp only [List.count_append] at this ⊢
    omega
  | some i :: as, x :: xs, ρ, v :: ws, S, _, en, .cons (S := T) (T := A2) w r, hr => by
    obtain ⟨hv, hr⟩ := hr
    obtain ⟨U, h0, en'⟩ := en.put hv w
    obtain ⟨S', h1, h2⟩ := back_ok en' r hr
    refine ⟨S', h1, .of_count fun a => ?_⟩
    have c1 := h2.count a
    have c2 := h0.count a
    simp only [List.count_append] at c1 c2 ⊢
    omega
/-! ### what a def does -/
inductive FR where
  | ret (o : O) (outs : List O)
  | exc (x : Ex) (outs : List O)
  | bad
def FOk (k : Kc) (e : Ent) (ws : List V) (Q : VK) (E : XK) : FR → Prop
  | .ret o outs => ∀ v H', (∃ F' S', Owns k F' H' (v :: ws) (o :: outs) S' ∧ Fr e F' H' S') → Q v H'
  | .exc x outs => ∀ c d H', (∃ F' S', Owns k F' H' ws outs S' ∧ Fr e F' H' S' ∧ XRep k F' H' x c d) → E c d H'
  | .bad => False
def spM (k : Kc) (n : Nat) (f : List O → FR) : Sp := fun ws H Q E => ws.length = n ∧ ∃ F os S, Owns k F H ws os S ∧ Fr ⟨F, H, S⟩ F H S ∧ FOk k ⟨F, H, S⟩ ws Q E (f os)
def mCall (f : List O → FR) (as : List (Option Nat)) (ma : M (List O)) : M O := fun ρ => match ma ρ with
  | .ok xs ρ1 => match fillA as xs ρ1 with
    | none => .bad
    | some z => match f z.1 with
      | .ret o outs => .ok o (backA as outs z.2)
      | .exc x outs => .exc x (backA as outs z.2)
      | .bad => .bad
  | .exc x ρ1 => .exc x ρ1
  | .bad => .bad
theorem tem_call {k : Kc} {E : XK} {tl : TA} {as : List (Option Nat)} {ma : M (List O)} {n : Nat} {f : List O → FR} (hn : as.length = n) (h : TAm k E tl as ma) : TEm k E (tCall (spM k n f) [] E tl) (mCall f as ma) := by
  intro P e σ ρ vs os H Q s g
  refine h P e σ ρ vs os H _ s ?_
  unfold mCall at g
  cases e1 : ma ρ with
  | bad => rw [e1] at g; exact g
  | exc x ρ1 => rw [e1] at g; exact g
  | ok xs ρ1 =>
    rw [e1] at g
    simp only at g
    intro ws H1 s1 hl hr
    cases e2 : fillA as xs ρ1 with
    | none => rw [e2] at g; exact g.elim
    | some z =>
      obtain ⟨ys, ρ2⟩ := z
      rw [e2] at g
      simp only at g
      obtain ⟨F, S1, S2, env, tmp, fr, pin⟩ := s1
      obtain ⟨A, B, eS, o1, o2⟩ := Owns.split hl tmp
      subst eS
      obtain ⟨S1', A', h1, h2, h3⟩ := fill_ok env o1 hr e2
      have fr' : Fr e F H1 (A' ++ (S1' ++ B)) := Sbp.fr fr (.of_count fun a => by
        have := h3.count a
        simp only [List.count_append] at this ⊢
        omega)
      have lens : ∀ {as : List (Option Nat)} {ws : List V}, RefsAt σ as ws → ws.length = as.length := by
        intro as
        induction as with
        | nil =>
          intro ws z
          cases ws with
          | nil => rfl
          | cons _ _ => exact z.elim
        | cons a as ih =>
          intro ws z
          cases ws with
          | nil => cases a <;> exact z.elim
          | cons w ws =>
            cases a with
            | none => exact congrArg (· + 1) (ih (show RefsAt σ as ws from z))
            | some i => exact congrArg (· + 1) (ih z.2)
      rw [List.append_nil]
      refine ⟨by rw [lens hr]; exact hn, F, ys, A', h2, (fr'.sub (List.sublist_append_left _ _)).refl, ?_⟩
      cases e3 : f ys with
      | bad => rw [e3] at g; exact g
      | ret o outs =>
        rw [e3] at g
        simp only at g
        intro v H' z
        obtain ⟨F', S', p1, p2⟩ := z
        obtain ⟨p3, p4⟩ := fr'.call p2
        cases p1 with
        | @cons _ _ _ _ T U w r =>
          obtain ⟨S'', q1, q2⟩ := back_ok (h1.mono p2.f0 p4.left) r hr
          refine g v H' ⟨F', S'', T ++ B, q1, .cons w (o2.mono p2.f0 p4.right), Sbp.fr p3 (.of_count fun a => ?_), pin⟩
          have := q2.count a
          simp only [List.count_append] at this ⊢
          omega
      | exc x outs =>
        rw [e3] at g
        simp only at g
        intro c d H' z
        obtain ⟨F', S', p1, p2, p5⟩ := z
        obtain ⟨p3, p4⟩ := fr'.call p2
        obtain ⟨S'', q1, q2⟩ := back_ok (h1.mono p2.f0 p4.left) p1 hr
        refine g c d H' ⟨F', S'', B, ⟨q1, o2.mono p2.f0 p4.right, Sbp.fr p3 (.of_count fun a => ?_), pin⟩, p5⟩
        have := q2.count a
        simp only [List.count_append] at this ⊢
        omega
/-! ### quiet defs: data in, data out -/
abbrev QF := List PD → Option PD
def spQ (k : Kc) (n : Nat) (q : QF) : Sp := fun ws H Q E => ws.length = n ∧ ∃ F ds d, Reps k.K F ws ds ∧ FLe F H ∧ q ds = some d ∧ ∀ v F' H', Xt F H F' H' → Rep k.K F' v d → Q v H'
def qOf (f : List O → FR) : QF := fun ds => match f (ds.map .fz) with
  | .ret o _ => toPD o
  | _ => none
theorem Reps.owns {k : Kc} {F H : Hp} : ∀ {vs : List V} {ds : List PD}, Reps k.K F vs ds → Owns k F H vs (ds.map .fz) []
  | _, _, .nil => .nil
  | _, _, .cons h r => .cons (.fz h) (Reps.owns r)
theorem spQ.imp {k : Kc} {n : Nat} {f : List O → FR} {ws : List V} {H : Hp} {Q : VK} {E : XK} (h : spQ k n (qOf f) ws H Q E) : spM k n f ws H Q E := by
  obtain ⟨hn, F, ds, d, r, fl, e, q⟩ := h
  refine ⟨hn, F, ds.map .fz, [], r.owns, ⟨fl, .nil, (fun a m => by cases m), (fun a m => by cases m), (fun a m => by cases m), (fun a m => by cases m), Same.refl _, fun a u z => .inl (by show F a ≠ none; rw [z]; simp), fun _ _ z _ => z, fun _ n => n⟩, ?_⟩
  unfold qOf at e
  split at e
  · rename_i o outs e1
    rw [e1]
    intro v H' z
    obtain ⟨F', S', p1, p2⟩ := z
    cases p1 with
    | @cons _ _ _ _ T U w r =>
      have off : ∀ a ∈ T, F' a = none := fun a m => p2.off a (List.mem_append_left _ m)
      refine q v (over F' H' T) H' ⟨fun a u z => p2.keep a u z (by simp), p2.f0.trans (over_sub off), over_le p2.fle, fun a u z => ?_⟩ (w.freeze off e)
      have z2 := z
      rcases over_fresh z with z | z
      · rcases p2.fnew a u z with y | y | y
        · cases w : F a with
          | none => exact absurd w y
          | some t =>
            have := p2.f0 a t w
            rw [z] at this
            exact .inl (by rw [this])
        · cases y
        · exact .inr y
      · rcases p2.own a (List.mem_append_left _ z) with y | y
        · cases y
        · exact .inr (.inl y)
  · cases e
mutual
def imm : PD → Bool
  | .none => true
  | .bool _ => true
  | .int _ => true
  | .str _ => true
  | .tuple ds => imms ds
  | .list _ => false
  | .dict _ => false
def imms : List PD → Bool
  | [] => true
  | d :: ds => imm d && imms ds
end
mutual
theorem Rep.imm {K : Frag} {F G : Hp} (s : ∀ a vs, RdT F a vs → RdT G a vs) : ∀ {v : V} {d : PD}, Rep K F v d → FM.imm d = true → Rep K G v d
  | _, _, .non, _ => .non
  | _, _, .bl b, _ => .bl b
  | _, _, .int i, _ => .int i
  | _, _, .str x, _ => .str x
  | _, _, .lst h r, e => by simp [FM.imm] at e
  | _, _, .tup h r, e => .tup (s _ _ h) (Reps.imm s r (by simpa [FM.imm] using e))
  | _, _, .dic h r e1, e => by subst e1; simp [FM.imm] at e
  | _, _, .dit h r e1, e => by subst e1; simp [FM.imm] at e
theorem Reps.imm {K : Frag} {F G : Hp} (s : ∀ a vs, RdT F a vs → RdT G a vs) : ∀ {v : List V} {d : List PD}, Reps K F v d → FM.imms d = true → Reps K G v d
  | _, _, .nil, _ => .nil
  | _, _, .cons h r, e => by
    have e' : _ ∧ _ := Bool.and_eq_true_iff.mp (by simpa only [FM.imms] using e)
    exact .cons (Rep.imm s h e'.1) (Reps.imm s r e'.2)
end
/-! lists and dicts of one's own, without tuples -/
mutual
def flatO : O → Bool
  | .fz _ => true
  | .lst _ => true
  | .dic _ => true
  | .dit _ => true
  | .nst os => flatOs os
  | .ntp _ => false
  | .ndc _ => false
  | .ins _ _ => false
  | .ktp _ => false
  | .ctp _ => true
  | .exo _ => false
  | .cod _ => false
  | .dnk _ => false
  | .dead => true
def flatOs : List O → Bool
  | [] => true
  | o :: os => flatO o && flatOs os
end
def Ntp (H : Hp) (a : Addr) : Prop := ∀ vs, ¬ Rd H a (.tup vs)
theorem rd_notup {H : Hp} {a : Addr} {u : HO} (h : Rd H a u) (hu : ∀ vs, u ≠ .tup vs) (hf : ∀ o v, u ≠ .frz o v) : Ntp H a := fun vs z => by
  rcases h with h | ⟨o, h⟩
  · rcases z with z | ⟨_, z⟩
    · rw [h] at z; cases z; exact hu vs rfl
    · rw [h] at z; cases z; exact hf _ _ rfl
  · rcases z with z | ⟨_, z⟩
    · rw [h] at z; cases z
    · rw [h] at z; cases z; exact hu vs rfl
mutual
theorem Own.notup {k : Kc} {F H : Hp} : ∀ {v : V} {o : O} {S : List Addr}, Own k F H v o S → flatO o = true → ∀ a ∈ S, Ntp H a
  | _, _, _, .fz _, _, a, m => by cases m
  | _, _, _, .lst h _, _, a, m => by rw [List.mem_singleton.mp m]; exact rd_notup h (fun _ z => by cases z) (fun _ _ z => by cases z)
  | _, _, _, .dic h _, _, a, m => by rw [List.mem_singleton.mp m]; exact rd_notup h (fun _ z => by cases z) (fun _ _ z => by cases z)
  | _, _, _, .dit h _, _, a, m => by rw [List.mem_singleton.mp m]; exact rd_notup h (fun _ z => by cases z) (fun _ _ z => by cases z)
  | _, _, _, .nst h r, e, a, m => by
    rcases List.mem_cons.mp m with e1 | m
    · rw [e1]; exact rd_notup h (fun _ z => by cases z) (fun _ _ z => by cases z)
    · exact Owns.notup r (by simpa [flatO] using e) a m
  | _, _, _, .ntp _ _ _, e, a, m => by simp [flatO] at e
  | _, _, _, .ndc _ _, e, a, m => by simp [flatO] at e
  | _, _, _, .ins _ _, e, a, m => by simp [flatO] at e
  | _, _, _, .ktp _ _, e, a, m => by cases m
  | _, _, _, .ctp _ _ _ _ _, e, a, m => by cases m
  | _, _, _, .exo _ _ _ _, e, a, m => by cases m
  | _, _, _, .cod, e, a, m => by cases m
  | _, _, _, .dnk _ _, e, a, m => by simp [flatO] at e
  | _, _, _, .dead, _, a, m => by cases m
theorem Owns.notup {k : Kc} {F H : Hp} : ∀ {v : List V} {o : List O} {S : List Addr}, Owns k F H v o S → flatOs o = true → ∀ a ∈ S, Ntp H a
  | _, _, _, .nil, _, a, m => by cases m
  | _, _, _, .cons h r, e, a, m => by
    have e' : _ ∧ _ := Bool.and_eq_true_iff.mp (by simpa only [flatOs] using e)
    exact (List.mem_append.mp m).elim (Own.notup h e'.1 a) (Owns.notup r e'.2 a)
end
def qCall (q : QF) (r : List O → Option (List O)) : QE := fun ρ => match r ρ with
  | none => none
  | some os => match fzs os with
    | some ds => (q ds).map .fz
    | none => if flatOs os then match toPDs os with
      | none => none
      | some ds => match q ds with
        | none => none
        | some d => if imm d then some (.fz d) else none
      else none
theorem Vws.length {k : Kc} {F H : Hp} {S : List Addr} : ∀ {vs : List V} {os : List O}, Vws k F H S vs os → vs.length = os.length
  | _, _, .nil => rfl
  | _, _, .cons _ r => congrArg (· + 1) (Vws.length r)
/-- views of lists and dicts: together what they lean on -/
theorem Vws.flat {k : Kc} {F H : Hp} {S : List Addr} (off : ∀ a ∈ S, F a = none) : ∀ {vs : List V} {os : List O} {ds : List PD}, Vws k F H S vs os → flatOs os = true → toPDs os = some ds → ∃ T : List Addr, (∀ a ∈ T, a ∈ S) ∧ (∀ a ∈ T, Ntp H a) ∧ (∀ U : List Addr, (∀ a ∈ T, a ∈ U) → (∀ a ∈ U, a ∈ S) → Reps k.K (over F H U) vs ds)
  | _, _, _, .nil, _, e => by
    have e' := Option.some.inj e
    subst e'
    exact ⟨[], (fun a m => by cases m), (fun a m => by cases m), fun _ _ _ => .nil⟩
  | _, _, _, .cons (o := o) (os := os) w ws, fl, e => by
    have fl' : _ ∧ _ := Bool.and_eq_true_iff.mp (by simpa only [flatOs] using fl)
    unfold toPDs at e
    cases q1 : toPD o with
    | none => rw [q1] at e; cases e
    | some d =>
      cases q2 : toPDs os with
      | none => rw [q1, q2] at e; cases e
      | some ds =>
        rw [q1, q2] at e
        have e' := Option.some.inj e
        subst e'
        obtain ⟨T1, m1, w1⟩ := w
        obtain ⟨T2, m2, n2, r2⟩ := Vws.flat off ws fl'.2 q2
        refine ⟨T1 ++ T2, fun a z => (List.mem_append.mp z).elim (m1 a) (m2 a), fun a z => (List.mem_append.mp z).elim (Own.notup w1 fl'.1 a) (n2 a), fun U h1 h2 => ?_⟩
        refine .cons ?_ (r2 U (fun a z => h1 a (List.mem_append_right _ z)) h2)
        exact own_fz (T := U) (over_sub fun a z => off a (h2 a z)) (fun a u m r => over_rd m r) (fun a vs m r => by rw [over_in m]; exact r) (fun a z => h1 a (List.mem_append_left _ z)) w1 q1
theorem tev_call {k : Kc} {E : XK} {tl : TA} {qs : List O → Option (List O)} {n : Nat} {q : QF} (hn : ∀ ρ os, qs ρ = some os → os.length = n) (h : TAv k tl qs) : TEv k (tCall (spQ k n q) [] E tl) (qCall q qs) := by
  intro F H σ ρ S o Q qst e g
  unfold qCall at e
  cases e1 : qs ρ with
  | none => rw [e1] at e; cases e
  | some os =>
    rw [e1] at e
    simp only at e
    refine h F H σ ρ S os _ qst e1 fun ws F1 H1 x1 w1 => ?_
    have q1 := qst.xt x1
    rw [List.append_nil]
    refine ⟨by rw [w1.length]; exact hn ρ os e1, ?_⟩
    cases e2 : fzs os with
    | some ds =>
      rw [e2] at e
      obtain ⟨d, e3, e4⟩ := Option.map_eq_some_iff.mp e
      subst e4
      exact ⟨F1, ds, d, w1.fzs e2, x1.fle, e3, fun v F' H' x r => g v F' H' (x1.trans x) (.fz r)⟩
    | none =>
      rw [e2] at e
      simp only at e
      split at e
      · rename_i fl
        cases e3 : toPDs os with
        | none => rw [e3] at e; cases e
        | some ds =>
          rw [e3] at e
          simp only at e
          cases e4 : q ds with
          | none => rw [e4] at e; cases e
          | some d =>
            rw [e4] at e
            simp only at e
            split at e
            · rename_i im
              have e' := Option.some.inj e
              subst e'
              obtain ⟨T, mT, nT, rT⟩ := w1.flat q1.off fl e3
              have offT : ∀ a ∈ T, F1 a = none := fun a z => q1.off a (mT a z)
              refine ⟨over F1 H1 T, ds, d, rT T (fun _ z => z) mT, over_le x1.fle, e4, fun v F' H' x r => ?_⟩
              let G : Hp := fun a => if a ∈ T then none else F' a
              have gout : ∀ {a : Addr}, a ∉ T → G a = F' a := fun n => if_neg n
              have hT : ∀ a ∈ T, ∃ u, H1 a = some u := fun a z => by
                cases w : H1 a with
                | none => exact absurd w ((q1.env.there a (mT a z)).1)
                | some u => exact ⟨u, rfl⟩
              refine g v G H' (x1.trans ⟨x.ex, fun a u z => ?_, fun a u z => ?_, fun a u z => ?_⟩) (.fz (r.imm (fun a vs z => ?_) im))
              · have n : a ∉ T := fun m => by rw [offT a m] at z; cases z
                rw [gout n]
                exact x.sub a u (by rw [over_out n]; exact z)
              · by_cases n : a ∈ T
                · have : G a = none := if_pos n
                  rw [this] at z; cases z
                · rw [gout n] at z
                  exact x.fle a u z
              · by_cases n : a ∈ T
                · have : G a = none := if_pos n
                  rw [this] at z; cases z
                · rw [gout n] at z
                  rcases x.fresh a u z with y | y
                  · rw [over_out n] at y; exact .inl y
                  · exact .inr y
              · have n : a ∉ T := fun m => by
                  obtain ⟨u, hu⟩ := hT a m
                  have := x.sub a u (by rw [over_in m]; exact hu)
                  refine nT a m vs ?_
                  rcases z with z | ⟨⟨ob, z⟩, _⟩
                  · rw [z] at this; cases this; exact .inl hu
                  · rw [z] at this; cases this; exact .inr ⟨ob, hu⟩
                rcases z with z | ⟨⟨ob, z⟩, nk⟩
                · exact .inl (by rw [gout n]; exact z)
                · exact .inr ⟨⟨ob, by rw [gout n]; exact z⟩, nk⟩
            · cases e
      · cases e
end FM
namespace FM
open PySem L2 PyProof.Rows
/-! ### statements -/
inductive RS where
  | next (ρ : List O)
  | ret (o : O) (ρ : List O)
  | brk (ρ : List O)
  | cont (ρ : List O)
  | exc (x : Ex) (ρ : List O)
  | bad
abbrev MS := List O → RS
def SOk (k : Kc) (P : List (Nat × V)) (e : Ent) (vs : List V) (os : List O) (E : XK) (D : Ends) : RS → Prop
  | .next ρ => ∀ σ H, St k P e σ ρ vs os H → D.nx σ H
  | .ret o ρ => ∀ σ v H, St k P e σ ρ (v :: vs) (o :: os) H → D.rt v H
  | .brk ρ => ∀ σ H, St k P e σ ρ vs os H → D.bk σ H
  | .cont ρ => ∀ σ H, St k P e σ ρ vs os H → D.ct σ H
  | .exc x ρ => ∀ σ c d H, StX k P e σ ρ vs os x c d H → E c d H
  | .bad => False
def Off (P : List (Nat × V)) (A : List Nat) : Prop := ∀ p ∈ P, p.1 ∉ A
theorem Off.l {P : List (Nat × V)} {A B : List Nat} (h : Off P (A ++ B)) : Off P A := fun p m z => h p m (List.mem_append_left _ z)
theorem Off.r {P : List (Nat × V)} {A B : List Nat} (h : Off P (A ++ B)) : Off P B := fun p m z => h p m (List.mem_append_right _ z)
def TSm (k : Kc) (E : XK) (A : List Nat) (t : TS) (m : MS) : Prop := ∀ (P : List (Nat × V)) (e : Ent) (σ : L2.St) (ρ : List O) (vs : List V) (os : List O) (H : Hp) (D : Ends), Off P A → St k P e σ ρ vs os H →
  SOk k P e vs os E D (m ρ) → t D σ H
def sNext : MS := fun ρ => .next ρ
def sSeq (a b : MS) : MS := fun ρ => match a ρ with
  | .next ρ1 => b ρ1
  | r => r
def sNever : MS := fun _ => .bad
def sDrop (m : M O) : MS := fun ρ => match m ρ with
  | .ok _ ρ1 => .next ρ1
  | .exc x ρ1 => .exc x ρ1
  | .bad => .bad
def sRet (m : M O) : MS := fun ρ => match m ρ with
  | .ok o ρ1 => .ret o ρ1
  | .exc x ρ1 => .exc x ρ1
  | .bad => .bad
def sSet (j : Nat) (m : M O) : MS := fun ρ => match m ρ with
  | .ok o ρ1 => .next (ρ1.set j o)
  | .exc x ρ1 => .exc x ρ1
  | .bad => .bad
def sAsg (f : QG) (m : M O) : MS := fun ρ => match m ρ with
  | .ok (.fz d) ρ1 => match f d ρ1 with
    | some ρ2 => .next ρ2
    | none => .bad
  | .ok _ _ => .bad
  | .exc x ρ1 => .exc x ρ1
  | .bad => .bad
def sPar (i j : Nat) (m : M (List O)) : MS := fun ρ => match m ρ with
  | .ok [o1, o2] ρ1 => .next ((ρ1.set i o1).set j o2)
  | .ok _ _ => .bad
  | .exc x ρ1 => .exc x ρ1
  | .bad => .bad
def sPar3 (i j l : Nat) (m : M (List O)) : MS := fun ρ => match m ρ with
  | .ok [o1, o2, o3] ρ1 => .next (((ρ1.set i o1).set j o2).set l o3)
  | .ok _ _ => .bad
  | .exc x ρ1 => .exc x ρ1
  | .bad => .bad
def sIf (c : M Bool) (a b : MS) : MS := fun ρ => match c ρ with
  | .ok true ρ1 => a ρ1
  | .ok false ρ1 => b ρ1
  | .exc x ρ1 => .exc x ρ1
  | .bad => .bad
def bLift (q : List O → Option Bool) : M Bool := fun ρ => match q ρ with
  | some b => .ok b ρ
  | none => .bad
/-- where a state's end is stored: one takes the top -/
theorem St.store {k : Kc} {P : List (Nat × V)} {e : Ent} {σ : L2.St} {ρ : List O} {vs : List V} {os : List O} {H : Hp} {v : V} {o : O} {j : Nat} (s : St k P e σ ρ (v :: vs) (o :: os) H) (hj : Off P [j]) : St k P e (σ.set j (some v)) (ρ.set j o) vs os H := by
  obtain ⟨F, S1, S2, env, tmp, fr, pin⟩ := s
  have pin' : ∀ p ∈ P, (σ.set j (some v))[p.1]? = some (some p.2) := fun p m => by
    rw [List.getElem?_set_ne (fun z => hj p m (by rw [z]; exact List.mem_cons_self))]
    exact pin p m
  cases tmp with
  | @cons _ _ _ _ T U w r =>
    rcases Envs.setO w j env with ⟨S', m, U', p, q⟩ | ⟨S', m, q⟩
    · refine ⟨F, U', U, q, r, Sbp.fr fr (.of_count fun a => ?_), pin'⟩
      have c1 := p.count_eq a
      have c2 := m.count_le a
      simp only [List.count_append] at c1 ⊢
      omega
    · refine ⟨F, S', U, q, r, Sbp.fr fr (.of_count fun a => ?_), pin'⟩
      have c2 := m.count_le a
      simp only [List.count_append]
      omega
section
variable {k : Kc} {E : XK} {te : TE} {m m1 m2 : M O} {t u : TS} {a b : MS} {A B : List Nat} {tc : TT}
theorem tsm_next : TSm k E [] tNext sNext := fun P e σ ρ vs os H D _ s g => g σ H s
theorem tsm_never : TSm k E [] tNever sNever := fun P e σ ρ vs os H D _ s g => g
theorem tsm_seq (h1 : TSm k E A t a) (h2 : TSm k E B u b) : TSm k E (A ++ B) (tSeq t u) (sSeq a b) := by
  intro P e σ ρ vs os H D o s g
  refine h1 P e σ ρ vs os H _ o.l s ?_
  unfold sSeq at g
  cases e1 : a ρ with
  | next ρ1 =>
    rw [e1] at g
    intro σ1 H1 s1
    exact h2 P e σ1 ρ1 vs os H1 D o.r s1 g
  | ret o ρ1 => rw [e1] at g; exact g
  | brk ρ1 => rw [e1] at g; exact g
  | cont ρ1 => rw [e1] at g; exact g
  | exc x ρ1 => rw [e1] at g; exact g
  | bad => rw [e1] at g; exact g
theorem SOk.exc {P : List (Nat × V)} {e : Ent} {σ : L2.St} {vs : List V} {os : List O} {D : Ends} {x : Ex} {ρ : List O} (g : SOk k P e vs os E D (.exc x ρ)) : ∀ c d H, StX k P e σ ρ vs os x c d H → E c d H := fun c d H s => g σ c d H s
theorem tsm_drop (h : TEm k E te m) : TSm k E [] (tDrop te) (sDrop m) := by
  intro P e σ ρ vs os H D o s g
  refine h P e σ ρ vs os H _ s ?_
  unfold sDrop at g
  cases e1 : m ρ with
  | ok x ρ1 => rw [e1] at g; exact fun v H1 s1 => g σ H1 s1.pop
  | exc x ρ1 => rw [e1] at g; exact g.exc
  | bad => rw [e1] at g; exact g
theorem tsm_ret (h : TEm k E te m) : TSm k E [] (tRet te) (sRet m) := by
  intro P e σ ρ vs os H D o s g
  refine h P e σ ρ vs os H _ s ?_
  unfold sRet at g
  cases e1 : m ρ with
  | ok x ρ1 => rw [e1] at g; exact fun v H1 s1 => g σ v H1 s1
  | exc x ρ1 => rw [e1] at g; exact g.exc
  | bad => rw [e1] at g; exact g
theorem tsm_set {j : Nat} (h : TEm k E te m) : TSm k E [j] (tAsg te (gName j)) (sSet j m) := by
  intro P e σ ρ vs os H D o s g
  refine h P e σ ρ vs os H _ s ?_
  unfold sSet at g
  cases e1 : m ρ with
  | ok x ρ1 => rw [e1] at g; exact fun v H1 s1 => g _ H1 (s1.store o)
  | exc x ρ1 => rw [e1] at g; exact g.exc
  | bad => rw [e1] at g; exact g
theorem St.target {P : List (Nat × V)} {e : Ent} {σ : L2.St} {ρ ρ' : List O} {vs : List V} {os : List O} {H : Hp} {v : V} {d : PD} {g : TG} {f : QG} {J : List Nat} {Q : L2.St → Hp → Prop} (hg : TGq k g f J) (s : St k P e σ ρ (v :: vs) (.fz d :: os) H) (o : Off P J) (e1 : f d ρ = some ρ') (q : ∀ σ', St k P e σ' ρ' vs os H → Q σ' H) : g v σ H Q := by
  obtain ⟨F, S1, S2, s⟩ := s
  obtain ⟨r, s2⟩ := s.top
  refine hg F H σ ρ ρ' S1 v d Q s2.qs r e1 fun σ' S' q' m' ag => q σ' ⟨F, S', S2, q'.env, s2.tmp, s2.fr.sub (List.Sublist.append m' (.refl _)), fun p m => ?_⟩
  rw [ag.at_ p.1 (o p m)]
  exact s2.pin p m
theorem tsm_asg {g : TG} {f : QG} {J : List Nat} (hg : TGq k g f J) (h : TEm k E te m) : TSm k E J (tAsg te g) (sAsg f m) := by
  intro P e σ ρ vs os H D o s g'
  refine h P e σ ρ vs os H _ s ?_
  unfold sAsg at g'
  cases e1 : m ρ with
  | ok x ρ1 =>
    rw [e1] at g'
    intro v H1 s1
    cases x with
    | fz d =>
      simp only at g'
      cases e2 : f d ρ1 with
      | none => rw [e2] at g'; exact g'.elim
      | some ρ2 =>
        rw [e2] at g'
        exact St.target hg s1 o e2 fun σ' s2 => g' σ' H1 s2
    | _ => exact g'.elim
  | exc x ρ1 => rw [e1] at g'; exact g'.exc
  | bad => rw [e1] at g'; exact g'
theorem St.swap {P : List (Nat × V)} {e : Ent} {σ : L2.St} {ρ : List O} {vs : List V} {os : List O} {H : Hp} {v w : V} {x y : O} (s : St k P e σ ρ (v :: w :: vs) (x :: y :: os) H) : St k P e σ ρ (w :: v :: vs) (y :: x :: os) H := by
  obtain ⟨F, S1, S2, env, tmp, fr, pin⟩ := s
  cases tmp with
  | @cons _ _ _ _ T U w1 r =>
    cases r with
    | @cons _ _ _ _ T2 U2 w2 r =>
      refine ⟨F, S1, T2 ++ (T ++ U2), env, .cons w2 (.cons w1 r), Sbp.fr fr (.of_count fun a => ?_), pin⟩
      simp only [List.count_append]
      omega
theorem tsm_par {i j : Nat} {ta : TA} {as : List (Option Nat)} {m : M (List O)} (h : TAm k E ta as m) : TSm k E [i, j] (tPar i j ta) (sPar i j m) := by
  intro P e σ ρ vs os H D o s g
  refine h P e σ ρ vs os H _ s ?_
  unfold sPar at g
  cases e1 : m ρ with
  | ok xs ρ1 =>
    rw [e1] at g
    intro ws H1 s1 hl _
    split at g
    · rename_i o1 o2 ρ2 e2
      cases e2
      match ws, hl with
      | [v, w], _ =>
        have s1 : St k P e σ ρ1 (v :: w :: vs) (o1 :: o2 :: os) H1 := s1
        exact ⟨v, w, rfl, g _ H1 ((s1.store fun p m z => o p m (by rw [List.mem_singleton.mp z]; simp)).store fun p m z => o p m (by rw [List.mem_singleton.mp z]; simp))⟩
    · exact g.elim
    · rename_i e2; cases e2
    · rename_i e2; cases e2
  | exc x ρ1 => rw [e1] at g; exact g.exc
  | bad => rw [e1] at g; exact g
end
end FM
namespace FM
open PySem L2 PyProof.Rows
section
variable {k : Kc} {E : XK} {te : TE} {m m1 m2 : M O} {t u : TS} {a b : MS} {A B : List Nat} {tc : TT}
theorem tsm_par3 {i j l : Nat} {ta : TA} {as : List (Option Nat)} {m : M (List O)} (h : TAm k E ta as m) : TSm k E [i, j, l] (tPar3 i j l ta) (sPar3 i j l m) := by
  intro P e σ ρ vs os H D o s g
  refine h P e σ ρ vs os H _ s ?_
  unfold sPar3 at g
  cases e1 : m ρ with
  | ok xs ρ1 =>
    rw [e1] at g
    intro ws H1 s1 hl _
    split at g
    · rename_i o1 o2 o3 ρ2 e2
      cases e2
      match ws, hl with
      | [v, w, z], _ =>
        have s1 : St k P e σ ρ1 (v :: w :: z :: vs) (o1 :: o2 :: o3 :: os) H1 := s1
        exact ⟨v, w, z, rfl, g _ H1 (((s1.store fun p m z => o p m (by rw [List.mem_singleton.mp z]; simp)).store fun p m z => o p m (by rw [List.mem_singleton.mp z]; simp)).store fun p m z => o p m (by rw [List.mem_singleton.mp z]; simp))⟩
    · exact g.elim
    · rename_i e2; cases e2
    · rename_i e2; cases e2
  | exc x ρ1 => rw [e1] at g; exact g.exc
  | bad => rw [e1] at g; exact g
theorem ttm_lift {q : List O → Option Bool} (h : TTv k tc q) : TTm k E tc (bLift q) := by
  intro P e σ ρ vs os H Q s g
  obtain ⟨F, S1, S2, s⟩ := s
  unfold bLift at g
  cases e1 : q ρ with
  | none => rw [e1] at g; exact g.elim
  | some b =>
    rw [e1] at g
    exact h F H σ ρ S1 b Q s.qs e1 fun F' H' x => g H' ⟨F', S1, S2, s.xt x⟩
def bTest (m : M O) : M Bool := fun ρ => match m ρ with
  | .ok (.fz (.bool b)) ρ1 => .ok b ρ1
  | .ok _ _ => .bad
  | .exc x ρ1 => .exc x ρ1
  | .bad => .bad
theorem St.bool {P : List (Nat × V)} {e : Ent} {σ : L2.St} {ρ : List O} {vs : List V} {os : List O} {H : Hp} {v : V} {b : Bool} (s : St k P e σ ρ (v :: vs) (.fz (.bool b) :: os) H) : v = .bl b ∧ St k P e σ ρ vs os H := by
  obtain ⟨F, S1, S2, s⟩ := s
  obtain ⟨r, s2⟩ := s.top
  refine ⟨?_, F, S1, S2, s2⟩
  cases r with
  | bl => rfl
  | dic _ _ e => cases e
  | dit _ _ e => cases e
theorem ttm_test (h : TEm k E te m) : TTm k E (tTest te) (bTest m) := by
  intro P e σ ρ vs os H Q s g
  refine h P e σ ρ vs os H _ s ?_
  unfold bTest at g
  cases e1 : m ρ with
  | ok x ρ1 =>
    rw [e1] at g
    intro v H1 s1
    split at g
    · rename_i b ρ2 e2
      cases e2
      obtain ⟨ev, s2⟩ := s1.bool
      exact ⟨b, ev, g H1 s2⟩
    · exact g.elim
    · rename_i e2; cases e2
    · rename_i e2; cases e2
  | exc x ρ1 => rw [e1] at g; exact g
  | bad => rw [e1] at g; exact g
theorem ttm_B (h : TEm k E te m) : TTm k E (tB te) (bTest m) := by
  intro P e σ ρ vs os H Q s g
  refine h P e σ ρ vs os H _ s ?_
  unfold bTest at g
  cases e1 : m ρ with
  | ok x ρ1 =>
    rw [e1] at g
    intro v H1 s1
    split at g
    · rename_i b ρ2 e2
      cases e2
      obtain ⟨ev, s2⟩ := s1.bool
      exact ⟨b, ev, g H1 s2⟩
    · exact g.elim
    · rename_i e2; cases e2
    · rename_i e2; cases e2
  | exc x ρ1 => rw [e1] at g; exact g
  | bad => rw [e1] at g; exact g
def bOr (c d : M Bool) : M Bool := fun ρ => match c ρ with
  | .ok false ρ1 => d ρ1
  | r => r
def bNot (c : M Bool) : M Bool := fun ρ => match c ρ with
  | .ok b ρ1 => .ok (!b) ρ1
  | r => r
theorem ttm_or {t1 t2 : TT} {c d : M Bool} (h1 : TTm k E t1 c) (h2 : TTm k E t2 d) : TTm k E (tOr t1 t2) (bOr c d) := by
  intro P e σ ρ vs os H Q s g
  refine h1 P e σ ρ vs os H _ s ?_
  unfold bOr at g
  cases e1 : c ρ with
  | ok x ρ1 =>
    rw [e1] at g
    intro H1 s1
    cases x with
    | false => rw [if_neg (by decide)]; exact h2 P e σ ρ1 vs os H1 Q s1 g
    | true => rw [if_pos rfl]; exact g H1 s1
  | exc x ρ1 => rw [e1] at g; exact g
  | bad => rw [e1] at g; exact g
theorem ttm_not {t1 : TT} {c : M Bool} (h1 : TTm k E t1 c) : TTm k E (tNot t1) (bNot c) := by
  intro P e σ ρ vs os H Q s g
  refine h1 P e σ ρ vs os H _ s ?_
  unfold bNot at g
  cases e1 : c ρ with
  | ok x ρ1 =>
    rw [e1] at g
    exact fun H1 s1 => g H1 s1
  | exc x ρ1 => rw [e1] at g; exact g
  | bad => rw [e1] at g; exact g
theorem St.val {P : List (Nat × V)} {e : Ent} {σ : L2.St} {ρ : List O} {vs : List V} {os : List O} {H : Hp} {v : V} {d : PD} (r : ∀ F, Rep k.K F v d) (s : St k P e σ ρ vs os H) : St k P e σ ρ (v :: vs) (.fz d :: os) H := by
  obtain ⟨F, S1, S2, env, tmp, fr, pin⟩ := s
  exact ⟨F, S1, [] ++ S2, env, .cons (.fz (r F)) tmp, fr, pin⟩
theorem tsm_if {c : M Bool} (hc : TTm k E tc c) (h1 : TSm k E A t a) (h2 : TSm k E B u b) : TSm k E (A ++ B) (tIfS tc t u) (sIf c a b) := by
  intro P e σ ρ vs os H D o s g
  refine hc P e σ ρ vs os H _ s ?_
  unfold sIf at g
  cases e1 : c ρ with
  | ok x ρ1 =>
    rw [e1] at g
    intro H1 s1
    cases x with
    | true => rw [if_pos rfl]; exact h1 P e σ ρ1 vs os H1 D o.l s1 g
    | false => rw [if_neg (by decide)]; exact h2 P e σ ρ1 vs os H1 D o.r s1 g
  | exc x ρ1 => rw [e1] at g; exact g.exc
  | bad => rw [e1] at g; exact g
/-! ### loops -/
theorem StW.trans {P : List (Nat × V)} {e : Ent} {F H : Hp} {S : List Addr} (f : Fr e F H S) {σ : L2.St} {ρ : List O} {vs : List V} {os : List O} {F' H' : Hp} {S1 S2 : List Addr} (s : StW k P ⟨F, H, S⟩ σ ρ vs os F' H' S1 S2) : StW k P e σ ρ vs os F' H' S1 S2 :=
  ⟨s.env, s.tmp, f.trans s.fr, s.pin⟩
theorem St.trans {P : List (Nat × V)} {e : Ent} {F H : Hp} {S : List Addr} (f : Fr e F H S) {σ : L2.St} {ρ : List O} {vs : List V} {os : List O} {H' : Hp} (s : St k P ⟨F, H, S⟩ σ ρ vs os H') : St k P e σ ρ vs os H' :=
  let ⟨F', S1, S2, s⟩ := s
  ⟨F', S1, S2, s.trans f⟩
theorem StX.trans {P : List (Nat × V)} {e : Ent} {F H : Hp} {S : List Addr} (f : Fr e F H S) {σ : L2.St} {ρ : List O} {vs : List V} {os : List O} {H' : Hp} {x : Ex} {c : Value} {d : Option Addr} (s : StX k P ⟨F, H, S⟩ σ ρ vs os x c d H') : StX k P e σ ρ vs os x c d H' :=
  let ⟨F', S1, S2, s, r⟩ := s
  ⟨F', S1, S2, s.trans f, r⟩
/-- what is walked, with effect -/
def TIm (k : Kc) (E : XK) (wi : TI) (m : M (List PD)) : Prop := ∀ (P : List (Nat × V)) (e : Ent) (σ : L2.St) (ρ : List O) (vs : List V) (os : List O) (H : Hp) (R : It → Hp → Prop), St k P e σ ρ vs os H →
  ROk (β := Unit) k P e σ vs os E (fun ds ρ' => ∀ J F' H' S1 S2, StW k P e σ ρ' vs os F' H' S1 S2 → WalkD k (fun F2 _ => Same F' F2) J ds → R J H') (m ρ) → wi σ H R
def iLift (q : QI) : M (List PD) := fun ρ => match q ρ with
  | some ds => .ok ds ρ
  | none => .bad
theorem tim_lift {wi : TI} {q : QI} (h : TIf k wi q) : TIm k E wi (iLift q) := by
  intro P e σ ρ vs os H R s g
  obtain ⟨F, S1, S2, s⟩ := s
  unfold iLift at g
  cases e1 : q ρ with
  | none => rw [e1] at g; exact g.elim
  | some ds =>
    rw [e1] at g
    exact h F H σ ρ S1 ds R s.qs e1 fun J F' H' x w => g J F' H' S1 S2 (s.xt x) w
def forGo (f : QG) (body : MS) : List PD → List O → RS
  | [], ρ => .next ρ
  | x :: xs, ρ => match f x ρ with
    | none => .bad
    | some ρ1 => match body ρ1 with
      | .next ρ2 => forGo f body xs ρ2
      | .cont ρ2 => forGo f body xs ρ2
      | .brk ρ2 => .next ρ2
      | .ret o ρ2 => .ret o ρ2
      | .exc x ρ2 => .exc x ρ2
      | .bad => .bad
def sFor (mi : M (List PD)) (f : QG) (body : MS) : MS := fun ρ => match mi ρ with
  | .ok ds ρ1 => forGo f body ds ρ1
  | .exc x ρ1 => .exc x ρ1
  | .bad => .bad
theorem tsm_for {wi : TI} {g : TG} {tb : TS} {mi : M (List PD)} {f : QG} {body : MS} {J : List Nat} (hi : TIm k E wi mi) (hg : TGq k g f J) (hb : TSm k E A tb body) : TSm k E (J ++ A) (tFor wi g tb) (sFor mi f body) := by
  intro P e σ ρ vs os H D o s gg
  refine hi P e σ ρ vs os H _ s ?_
  unfold sFor at gg
  cases e1 : mi ρ with
  | exc x ρ1 => rw [e1] at gg; exact gg.exc
  | bad => rw [e1] at gg; exact gg
  | ok ds ρ1 =>
    rw [e1] at gg
    simp only at gg
    intro It F H1 S1 S2 s1 W
    have f0 : Fr e F H1 (S1 ++ S2) := s1.fr
    let e' : Ent := ⟨F, H1, S1 ++ S2⟩
    have s1' : St k P e' σ ρ1 vs os H1 := ⟨F, S1, S2, s1.env, s1.tmp, s1.fr.refl, s1.pin⟩
    refine ⟨fun i n σ H => n = ds.length - i ∧ i ≤ ds.length ∧ ∃ ρi, St k P e' σ ρi vs os H ∧ SOk k P e vs os E D (forGo f body (ds.drop i) ρi), ⟨_, rfl, Nat.zero_le _, ρ1, s1', by simpa using gg⟩, ?_⟩
    rintro i n σ2 H2 ⟨rfl, hi2, ρi, s2, g2⟩
    by_cases hlt : i < ds.length
    · obtain ⟨F2, T1, T2, s2⟩ := s2
      refine .inr ⟨W.goes i F2 H2 hlt s2.fr.f0 s2.fr.fle, fun σ' H' => i + 1 ≤ ds.length ∧ ∃ ρi, St k P e' σ' ρi vs os H' ∧ SOk k P e vs os E D (forGo f body (ds.drop (i + 1)) ρi), fun σ' H' z => ⟨_, ?_, rfl, z.1, z.2⟩, fun x H3 y => ?_⟩
      · omega
      · obtain ⟨F3, x3, rx⟩ := W.yields i F2 H2 x H3 hlt s2.fr.f0 s2.fr.fle y
        rw [List.drop_eq_getElem_cons hlt] at g2
        unfold forGo at g2
        cases e6 : f ds[i] ρi with
        | none => rw [e6] at g2; exact g2.elim
        | some ρ4 =>
          simp only [e6] at g2
          have s3 : St k P e' σ2 ρi (x :: vs) (.fz ds[i] :: os) H3 := ⟨F3, T1, [] ++ T2, s2.push x3 (.fz rx) ⟨.nil, (fun a m => by cases m), (fun a m => by cases m), (fun a m => by cases m)⟩⟩
          refine St.target hg s3 o.l e6 fun σ4 s4 => ?_
          refine hb P e' σ4 ρ4 vs os H3 _ o.r s4 ?_
          cases e7 : body ρ4 with
          | next ρ5 => simp only [e7] at g2; exact fun σ5 H5 s5 => ⟨hlt, ρ5, s5, g2⟩
          | cont ρ5 => simp only [e7] at g2; exact fun σ5 H5 s5 => ⟨hlt, ρ5, s5, g2⟩
          | brk ρ5 => simp only [e7] at g2; exact fun σ5 H5 s5 => g2 σ5 H5 (s5.trans f0)
          | ret o5 ρ5 => simp only [e7] at g2; exact fun σ5 v5 H5 s5 => g2 σ5 v5 H5 (s5.trans f0)
          | exc x5 ρ5 => simp only [e7] at g2; exact fun σ5 c d H5 s5 => g2 σ5 c d H5 (s5.trans f0)
          | bad => simp only [e7] at g2; exact g2
    · have ei : i = ds.length := by omega
      subst ei
      obtain ⟨F2, T1, T2, s2⟩ := s2
      refine .inl ⟨W.stops F2 H2 s2.fr.f0 s2.fr.fle, ?_⟩
      rw [List.drop_length] at g2
      exact g2 σ2 H2 (St.trans f0 ⟨F2, T1, T2, s2⟩)
/-! while -/
def whileN (c : M Bool) (body : MS) : Nat → List O → RS
  | 0, _ => .bad
  | n + 1, ρ => match c ρ with
    | .ok false ρ1 => .next ρ1
    | .ok true ρ1 => match body ρ1 with
      | .next ρ2 => whileN c body n ρ2
      | .cont ρ2 => whileN c body n ρ2
      | .brk ρ2 => .next ρ2
      | .ret o ρ2 => .ret o ρ2
      | .exc x ρ2 => .exc x ρ2
      | .bad => .bad
    | .exc x ρ1 => .exc x ρ1
    | .bad => .bad
theorem whileN_succ {c : M Bool} {body : MS} : ∀ {n : Nat} {ρ : List O}, whileN c body n ρ ≠ .bad → whileN c body (n + 1) ρ = whileN c body n ρ
  | 0, _, h => (h rfl).elim
  | n + 1, ρ, h => by
    unfold whileN at h
    rw [whileN]
    conv => rhs; rw [whileN]
    cases e1 : c ρ with
    | bad => rfl
    | exc x ρ1 => rfl
    | ok b ρ1 =>
      rw [e1] at h
      cases b with
      | false => rfl
      | true =>
        simp only at h ⊢
        cases e2 : body ρ1 with
        | next ρ2 => rw [e2] at h; exact whileN_succ h
        | cont ρ2 => rw [e2] at h; exact whileN_succ h
        | _ => rfl
theorem whileN_le {c : M Bool} {body : MS} {n m : Nat} {ρ : List O} (h : whileN c body n ρ ≠ .bad) (l : n ≤ m) : whileN c body m ρ = whileN c body n ρ := by
  induction l with
  | refl => rfl
  | step l ih => rw [whileN_succ (by rw [ih]; exact h), ih]
open Classical in
noncomputable def sWhile (c : M Bool) (body : MS) : MS := fun ρ => if h : ∃ n, whileN c body n ρ ≠ .bad then whileN c body (choose h) ρ else .bad
theorem sWhile_of {c : M Bool} {body : MS} {n : Nat} {ρ : List O} (h : whileN c body n ρ ≠ .bad) : sWhile c body ρ = whileN c body n ρ := by
  have h' : ∃ n, whileN c body n ρ ≠ .bad := ⟨n, h⟩
  unfold sWhile
  rw [dif_pos h']
  have hc := Classical.choose_spec h'
  rcases Nat.le_total n (Classical.choose h') with l | l
  · exact whileN_le h l
  · exact (whileN_le hc l).symm
theorem sWhile_is {c : M Bool} {body : MS} (ρ : List O) : ∃ n, sWhile c body ρ = whileN c body n ρ := by
  by_cases h : ∃ n, whileN c body n ρ ≠ .bad
  · exact ⟨_, sWhile_of h.choose_spec⟩
  · refine ⟨0, ?_⟩
    unfold sWhile
    rw [dif_neg h]
    rfl
def whileStep (c : M Bool) (body : MS) (k : MS) : MS := fun ρ => match c ρ with
  | .ok false ρ1 => .next ρ1
  | .ok true ρ1 => match body ρ1 with
    | .next ρ2 => k ρ2
    | .cont ρ2 => k ρ2
    | .brk ρ2 => .next ρ2
    | .ret o ρ2 => .ret o ρ2
    | .exc x ρ2 => .exc x ρ2
    | .bad => .bad
  | .exc x ρ1 => .exc x ρ1
  | .bad => .bad
theorem whileN_step {c : M Bool} {body : MS} {n : Nat} {ρ : List O} : whileN c body (n + 1) ρ = whileStep c body (whileN c body n) ρ := by
  rw [whileN, whileStep]
theorem sWhile_eq {c : M Bool} {body : MS} (ρ : List O) : sWhile c body ρ = whileStep c body (sWhile c body) ρ := by
  have key : ∀ n, whileN c body (n + 1) ρ ≠ .bad → whileN c body (n + 1) ρ = whileStep c body (sWhile c body) ρ := by
    intro n h
    rw [whileN_step] at h ⊢
    unfold whileStep at h ⊢
    cases e1 : c ρ with
    | bad => rfl
    | exc x ρ1 => rfl
    | ok b ρ1 =>
      rw [e1] at h
      cases b with
      | false => rfl
      | true =>
        simp only at h ⊢
        cases e2 : body ρ1 with
        | next ρ2 => rw [e2] at h; exact (sWhile_of h).symm
        | cont ρ2 => rw [e2] at h; exact (sWhile_of h).symm
        | _ => rfl
  by_cases h : ∃ n, whileN c body n ρ ≠ .bad
  · obtain ⟨n, h⟩ := h
    have h1 : whileN c body (n + 1) ρ ≠ .bad := by rw [whileN_succ h]; exact h
    rw [sWhile_of h1]
    exact key n h1
  · have hb : sWhile c body ρ = .bad := by unfold sWhile; rw [dif_neg h]
    rw [hb]
    refine Classical.byContradiction fun hn => h ?_
    -- the step ends well: so do finitely many
    unfold whileStep at hn
    cases e1 : c ρ with
    | bad => rw [e1] at hn; exact (hn rfl).elim
    | exc x ρ1 => exact ⟨1, by rw [whileN, e1]; simp⟩
    | ok b ρ1 =>
      rw [e1] at hn
      cases b with
      | false => exact ⟨1, by rw [whileN, e1]; simp⟩
      | true =>
        simp only at hn
        cases e2 : body ρ1 with
        | next ρ2 =>
          rw [e2] at hn
          obtain ⟨n, en⟩ := sWhile_is (c := c) (body := body) ρ2
          refine ⟨n + 1, ?_⟩
          rw [whileN, e1]
          simp only [e2]
          rw [← en]
          exact fun z => hn z.symm
        | cont ρ2 =>
          rw [e2] at hn
          obtain ⟨n, en⟩ := sWhile_is (c := c) (body := body) ρ2
          refine ⟨n + 1, ?_⟩
          rw [whileN, e1]
          simp only [e2]
          rw [← en]
          exact fun z => hn z.symm
        | brk ρ2 => exact ⟨1, by rw [whileN, e1]; simp [e2]⟩
        | ret o ρ2 => exact ⟨1, by rw [whileN, e1]; simp [e2]⟩
        | exc x ρ2 => exact ⟨1, by rw [whileN, e1]; simp [e2]⟩
        | bad => rw [e2] at hn; exact (hn rfl).elim
theorem tsm_while {c : M Bool} {tb : TS} {body : MS} (hc : TTm k E tc c) (hb : TSm k E A tb body) : TSm k E A (tWhile tc tb) (sWhile c body) := by
  intro P e σ ρ vs os H D o s g
  obtain ⟨n, en⟩ := sWhile_is (c := c) (body := body) ρ
  rw [en] at g
  refine ⟨fun n σ H => ∃ ρ, St k P e σ ρ vs os H ∧ SOk k P e vs os E D (whileN c body n ρ), ⟨n, ρ, s, g⟩, ?_⟩
  rintro n σ2 H2 ⟨ρ2, s2, g2⟩
  cases n with
  | zero => exact g2.elim
  | succ n =>
    refine hc P e σ2 ρ2 vs os H2 _ s2 ?_
    rw [whileN] at g2
    cases e1 : c ρ2 with
    | bad => rw [e1] at g2; exact g2
    | exc x ρ3 => rw [e1] at g2; exact g2.exc
    | ok b ρ3 =>
      rw [e1] at g2
      intro H3 s3
      cases b with
      | false => rw [if_neg (by decide)]; exact g2 σ2 H3 s3
      | true =>
        rw [if_pos rfl]
        simp only at g2
        refine ⟨fun σ' H' => ∃ ρ, St k P e σ' ρ vs os H' ∧ SOk k P e vs os E D (whileN c body n ρ), fun σ' H' z => ⟨n, Nat.lt_succ_self n, z⟩, ?_⟩
        refine hb P e σ2 ρ3 vs os H3 _ o s3 ?_
        cases e7 : body ρ3 with
        | next ρ5 => simp only [e7] at g2; exact fun σ5 H5 s5 => ⟨ρ5, s5, g2⟩
        | cont ρ5 => simp only [e7] at g2; exact fun σ5 H5 s5 => ⟨ρ5, s5, g2⟩
        | brk ρ5 => simp only [e7] at g2; exact fun σ5 H5 s5 => g2 σ5 H5 s5
        | ret o5 ρ5 => simp only [e7] at g2; exact fun σ5 v5 H5 s5 => g2 σ5 v5 H5 s5
        | exc x5 ρ5 => simp only [e7] at g2; exact fun σ5 c d H5 s5 => g2 σ5 c d H5 s5
        | bad => simp only [e7] at g2; exact g2
end
end FM
namespace FM
open PySem L2 PyProof.Rows
section
variable {k : Kc} {E : XK} {te : TE} {m m1 m2 : M O} {t u : TS} {a b : MS} {A B : List Nat} {tc : TT}
/-! ### a slot's own thing: taken out, frozen where it lies -/
def mMove (i : Nat) : M O := fun ρ => match qVar i ρ with
  | some o => .ok o (ρ.set i .dead)
  | none => .bad
theorem tem_move {i : Nat} : TEm k E (tVar i) (mMove i) := by
  intro P e σ ρ vs os H Q s g
  unfold mMove at g
  cases e0 : qVar i ρ with
  | none => rw [e0] at g; exact g.elim
  | some o =>
    rw [e0] at g
    obtain ⟨F, S1, S2, env, tmp, fr, pin⟩ := s
    obtain ⟨g1, g2⟩ := qVar_some e0
    obtain ⟨v, T, R, a1, a2, a3, a4⟩ := env.take g1 g2
    refine ⟨v, a1, g v H ⟨F, R, T ++ S2, a3, .cons a2 tmp, Sbp.fr fr (.of_count fun a => ?_), pin⟩⟩
    have c2 := a4.count_eq a
    simp only [List.count_append] at c2 ⊢
    omega
/-! ### displays, calls of builtins -/
theorem Owns.fzs {F H : Hp} : ∀ {vs : List V} {os : List O} {S : List Addr} {ds : List PD}, Owns k F H vs os S → FM.fzs os = some ds → Reps k.K F vs ds ∧ S = []
  | _, _, _, _, .nil, e => by
    have e' := Option.some.inj e
    subst e'
    exact ⟨.nil, rfl⟩
  | _, _, _, _, .cons (os := os) (T := T) w r, e => by
    cases w with
    | fz w =>
      obtain ⟨z, e1, e2⟩ := Option.map_eq_some_iff.mp (show (FM.fzs os).map _ = some _ from e)
      subst e2
      obtain ⟨h1, h2⟩ := Owns.fzs r e1
      exact ⟨.cons w h1, by rw [h2]; rfl⟩
    | _ => cases e
theorem St.splitFz {P : List (Nat × V)} {e : Ent} {σ : L2.St} {ρ : List O} {ws vs : List V} {xs os : List O} {F H : Hp} {S1 S2 : List Addr} {ds : List PD} (s : StW k P e σ ρ (ws ++ vs) (xs ++ os) F H S1 S2) (hl : ws.length = xs.length) (e1 : fzs xs = some ds) : Reps k.K F ws ds ∧ StW k P e σ ρ vs os F H S1 S2 := by
  obtain ⟨env, tmp, fr, pin⟩ := s
  obtain ⟨A, B, eS, o1, o2⟩ := Owns.split hl tmp
  obtain ⟨r, eA⟩ := o1.fzs e1
  subst eS eA
  exact ⟨r, ⟨env, o2, fr, pin⟩⟩
/-- what is an object of one's own -/
def refO : O → Bool
  | .fz _ => false
  | .dead => false
  | _ => true
theorem Own.refO {k : Kc} {F H : Hp} {v : V} {o : O} {S : List Addr} (w : Own k F H v o S) (h : FM.refO o = true) : ∃ a, v = .ref a := by
  cases w with
  | fz _ => cases h
  | dead => cases h
  | _ => exact ⟨_, rfl⟩
theorem Owns.nogr {k : Kc} {F H : Hp} : ∀ {vs : List V} {os : List O} {S : List Addr}, Owns k F H vs os S → os.any FM.refO = true → ∀ z : List Key, vs ≠ z.map kV
  | _, _, _, .nil, h, _, _ => by cases h
  | _, _, _, .cons w r, h, z, e => by
    cases z with
    | nil => cases e
    | cons x z =>
      rw [List.map_cons] at e
      injection e with e1 e2
      rw [List.any_cons, Bool.or_eq_true] at h
      rcases h with h | h
      · obtain ⟨a, ea⟩ := w.refO h
        rw [ea] at e1
        cases x <;> cases e1
      · exact Owns.nogr r h z e2
def mTup (m : M (List O)) : M O := fun ρ => match m ρ with
  | .ok xs ρ1 => if xs.length ≤ sizeLine then match fzs xs with
      | some ds => .ok (.fz (.tuple ds)) ρ1
      | none => if xs.any refO then .ok (.ntp xs) ρ1 else .bad
    else .bad
  | .exc x ρ1 => .exc x ρ1
  | .bad => .bad
theorem StW.pushN {P : List (Nat × V)} {e : Ent} {σ : L2.St} {ρ : List O} {vs : List V} {os : List O} {F H : Hp} {S1 S2 : List Addr} {p : Addr} {ob : HO} {v : V} {o : O} (s : StW k P e σ ρ vs os F H S1 S2) (hp : H p = none) (hn : ∀ o u, ob ≠ .frz o u) (w : Own k F (upd H p ob) v o [p]) : St k P e σ ρ (v :: vs) (o :: os) (upd H p ob) := by
  refine ⟨F, S1, [p] ++ S2, s.push (Xt.own s.fr.fle hp) w ⟨List.nodup_cons.mpr ⟨List.not_mem_nil, .nil⟩, (fun a m => ?_), (fun a m => ?_), (fun a m o u z => ?_)⟩⟩
  · rw [List.mem_singleton.mp m]; exact hp
  · rw [List.mem_singleton.mp m]; exact fle_none s.fr.fle hp
  · rw [List.mem_singleton.mp m, upd_same] at z
    exact hn o u (Option.some.inj z)
theorem StW.nest {P : List (Nat × V)} {e : Ent} {σ : L2.St} {ρ : List O} {ws vs : List V} {xs os : List O} {F H : Hp} {S1 S2 : List Addr} {p : Addr} {ob : HO} {o : O} (s : StW k P e σ ρ (ws ++ vs) (xs ++ os) F H S1 S2) (hl : ws.length = xs.length) (hp : H p = none) (hn : ∀ o u, ob ≠ .frz o u) (hgn : ¬ gnd ob)
    (w : ∀ S, Owns k F (upd H p ob) ws xs S → Own k F (upd H p ob) (.ref p) o (p :: S)) : St k P e σ ρ (.ref p :: vs) (o :: os) (upd H p ob) := by
  have x := Xt.own (o := ob) s.fr.fle hp
  have s2 := s.xt x
  obtain ⟨env, tmp, fr, pin⟩ := s2
  obtain ⟨A, B, eS, o1, o2⟩ := Owns.split hl tmp
  subst eS
  have f2 : Fr e F (upd H p ob) ([p] ++ (S1 ++ (A ++ B))) := s.fr.fresh x ⟨List.nodup_cons.mpr ⟨List.not_mem_nil, .nil⟩, (fun a m => by rw [List.mem_singleton.mp m]; exact hp), (fun a m => by rw [List.mem_singleton.mp m]; exact fle_none s.fr.fle hp), (fun a m o u z => by
    rw [List.mem_singleton.mp m, upd_same] at z
    exact hn o u (Option.some.inj z))⟩ (fun a m => by
    rw [List.mem_singleton.mp m]
    refine ⟨by rw [upd_same]; simp, fun u g z => ?_⟩
    rw [upd_same] at z
    cases z
    exact hgn g)
  refine ⟨F, S1, (p :: A) ++ B, env, .cons (w A o1) o2, Sbp.fr f2 (.of_count fun a => ?_), pin⟩
  simp only [List.count_append, List.count_cons, List.count_nil]
  omega
theorem tem_tup {ta : TA} {as : List (Option Nat)} {m : M (List O)} (h : TAm k E ta as m) : TEm k E (tTup ta) (mTup m) := by
  intro P e σ ρ vs os H Q s g
  refine h P e σ ρ vs os H _ s ?_
  unfold mTup at g
  cases e1 : m ρ with
  | exc x ρ1 => rw [e1] at g; exact g
  | bad => rw [e1] at g; exact g
  | ok xs ρ1 =>
    rw [e1] at g
    simp only at g
    intro ws H1 s1 hl _
    obtain ⟨F, S1, S2, s1⟩ := s1
    split at g
    · rename_i hz
      refine ⟨by rw [hl]; exact hz, fun p hp => ?_⟩
      split at g
      · rename_i ds e2
        obtain ⟨r, s2⟩ := St.splitFz s1 hl e2
        have x2 := Xt.new (o := .tup ws) s2.fr.fle hp
        exact g _ _ ⟨_, S1, [] ++ S2, s2.push x2 (.fz (.tup (.inl upd_same) (r.sub x2.sub))) ⟨.nil, (fun a m => by cases m), (fun a m => by cases m), (fun a m => by cases m)⟩⟩
      · split at g
        · rename_i hr
          have ng : ∀ z : List Key, ws ≠ z.map kV := by
            obtain ⟨A, B, eS, o1, o2⟩ := Owns.split hl s1.tmp
            exact o1.nogr hr
          exact g _ _ (s1.nest hl hp (fun _ _ z => by cases z) (by rintro ⟨z, e⟩; cases e; exact ng z rfl) fun S w => .ntp upd_same ng w)
        · exact g.elim
    · exact g.elim
/-! ### slices with effects -/
/-! ### a slot's own list changes -/
/-- methods of a list of data -/
def LstM (k : Kc) (r : V → List V → Hp → VK → Prop) (f : List PD → List PD → Option (PD × List PD)) : Prop := ∀ (F H : Hp) (a : Addr) (vs : List V) (ds : List PD) (ws : List V) (xs : List PD) (d : PD) (ds' : List PD) (Q : VK),
  FLe F H → H a = some (.lst vs) → Reps k.K F vs ds → Reps k.K F ws xs → f ds xs = some (d, ds') → (∀ v vs', Reps k.K F vs' ds' → Rep k.K F v d → Q v (upd H a (.lst vs'))) → r (.ref a) ws H Q
def mMt (i : Nat) (f : List PD → List PD → Option (PD × List PD)) (m : M (List O)) : M O := fun ρ => match qVar i ρ with
  | some (.lst _) => match m ρ with
    | .ok xs ρ1 => match fzs xs with
      | some zs => match qVar i ρ1 with
        | some (.lst ds) => match f ds zs with
          | some r => .ok (.fz r.1) (ρ1.set i (.lst r.2))
          | none => .bad
        | _ => .bad
      | none => .bad
    | .exc x ρ1 => .exc x ρ1
    | .bad => .bad
  | _ => .bad
/-- the slot's list, its object, and a change of it -/
theorem StW.lstAt {P : List (Nat × V)} {e : Ent} {σ : L2.St} {ρ : List O} {vs : List V} {os : List O} {F H : Hp} {S1 S2 : List Addr} {i : Nat} {ds : List PD} (s : StW k P e σ ρ vs os F H S1 S2) (e0 : qVar i ρ = some (.lst ds)) :
    ∃ a ws, σ[i]? = some (some (.ref a)) ∧ H a = some (.lst ws) ∧ Reps k.K F ws ds ∧ ∀ ws' ds', Reps k.K F ws' ds' → ∃ U, StW k P e σ (ρ.set i (.lst ds')) vs os F (upd H a (.lst ws')) U S2 := by
  obtain ⟨env, tmp, fr, pin⟩ := s
  obtain ⟨g1, g2⟩ := qVar_some e0
  obtain ⟨v, T, R, a1, a2, a3, a4⟩ := env.take g1 g2
  cases a2 with
  | @lst a ws _ h r =>
    have fr' : Fr e F H (a :: (R ++ S2)) := Sbp.fr fr (.of_count fun b => by
      have c2 := a4.count_eq b
      simp only [List.count_append, List.count_cons, List.count_nil] at c2 ⊢
      omega)
    have ha : H a = some (.lst ws) := by
      rcases h with h | ⟨ob, h⟩
      · exact h
      · exact (fr'.nofz a List.mem_cons_self ob _ h).elim
    refine ⟨a, ws, a1, ha, r, fun ws' ds' r' => ?_⟩
    have nd := List.nodup_cons.mp fr'.nd
    have at_ : ∀ U : List Addr, (∀ b ∈ U, b ∈ R ++ S2) → At U H (upd H a (.lst ws')) := fun U m b mb u z => by
      rw [upd_ne (fun q => nd.1 (by rw [← q]; exact m b mb))]
      exact z
    have fw := fr'.write (a := a) (o := .lst ws') List.mem_cons_self (fun _ _ z => by cases z)
    have env3 := a3.mono (Same.refl F) (at_ R fun b m => List.mem_append_left _ m)
    have tmp3 := tmp.mono (Same.refl F) (at_ S2 fun b m => List.mem_append_right _ m)
    obtain ⟨U, mU, q⟩ := env3.put (i := i) a1 (Own.lst (k := k) (F := F) (.inl upd_same) r')
    rw [List.set_set] at q
    exact ⟨U, q, tmp3, Sbp.fr fw (.of_count fun b => by
      have := mU.count b
      simp only [List.count_append, List.count_cons, List.count_nil] at this ⊢
      omega), pin⟩
theorem tem_mt {i : Nat} {r : V → List V → Hp → VK → Prop} {f : List PD → List PD → Option (PD × List PD)} {ta : TA} {as : List (Option Nat)} {m : M (List O)} (h : TAm k E ta as m) (hr : LstM k r f) : TEm k E (tBM k.K "list" r (tVar i) ta) (mMt i f m) := by
  intro P e σ ρ vs os H Q s g
  unfold mMt at g
  split at g
  · rename_i ds0 e0
    obtain ⟨F0, T1, T2, s0⟩ := id s
    obtain ⟨a, ws, a1, a2, _, _⟩ := s0.lstAt e0
    refine ⟨.ref a, a1, .inl ⟨rfl, ws, .inl (.inl a2)⟩, h P e σ ρ vs os H _ s ?_⟩
    cases e1 : m ρ with
    | exc x ρ1 => rw [e1] at g; exact g
    | bad => rw [e1] at g; exact g
    | ok xs ρ1 =>
      rw [e1] at g
      simp only at g
      intro zs' H1 s1 hl _
      split at g
      · rename_i zs e2
        obtain ⟨F, S1, S2, s1⟩ := s1
        obtain ⟨r1, s2⟩ := St.splitFz s1 hl e2
        split at g
        · rename_i ds e3
          obtain ⟨a', ws2, b1, b2, b3, b4⟩ := s2.lstAt e3
          rw [a1] at b1
          cases b1
          cases e4 : f ds zs with
          | none => rw [e4] at g; exact g.elim
          | some z =>
            rw [e4] at g
            obtain ⟨d, ds'⟩ := z
            refine hr F H1 a ws2 ds zs' zs d ds' Q s2.fr.fle b2 b3 r1 e4 fun v vs' rv rd => ?_
            obtain ⟨U, s5⟩ := b4 vs' ds' rv
            exact g v _ ⟨F, U, [] ++ S2, s5.env, .cons (.fz rd) s5.tmp, s5.fr, s5.pin⟩
        · exact g.elim
      · exact g.elim
  · exact g.elim
def fAppend : List PD → List PD → Option (PD × List PD) := fun ds xs => match xs with
  | [x] => if ds.length < sizeLine then some (.none, ds ++ [x]) else none
  | _ => none
theorem lm_append : LstM k rAppend fAppend := by
  intro F H a vs ds ws xs d ds' Q fl ha r rw' e g
  unfold fAppend at e
  split at e
  · rename_i x
    split at e
    · rename_i hz
      have e' := Option.some.inj e
      cases e'
      cases rw' with
      | cons w r2 =>
        cases r2
        exact ⟨a, vs, _, rfl, rfl, ha, by rw [r.length]; exact hz, g _ _ (r.append (.cons w .nil)) .non⟩
    · cases e
  · cases e
theorem Reps.erase {K : Frag} {F : Hp} : ∀ {vs : List V} {ds : List PD} (n : Nat), Reps K F vs ds → Reps K F (vs.eraseIdx n) (ds.eraseIdx n)
  | _, _, _, .nil => .nil
  | _, _, 0, .cons h r => r
  | _, _, n + 1, .cons h r => .cons h (Reps.erase n r)
/-! ### slot[i] = value -/
def fSetI (ds : List PD) (i d : PD) : Option (List PD) := match i with
  | .int j => (ixN ds.length j).map fun n => ds.set n d
  | _ => none
end
end FM
namespace FM
open PySem PySem.Spec L2 PyProof.Rows
/-! ### room without a guard -/
structure RoomG (k : Nat) (A : Around) : Prop where
  rm : Room k A
  gd : A.guards = some []
theorem RoomG.mono {j k : Nat} {A : Around} (r : RoomG k A) (h : j ≤ k) : RoomG j A := ⟨r.rm.mono h, r.gd⟩
theorem RoomG.deeper {k : Nat} {A : Around} (r : RoomG (k + 1) A) (env : Env) : RoomG k (A.deeper env) := ⟨r.rm.deeper env, r.gd⟩
theorem make_guards {A : Around} {C : Addr} {us : List Value} {kw : List (Str × Value)} (h : A.guards = some []) : (A.under (.builtin "type.__call__" ⟨.ref C :: us, kw⟩)).guards = some [] := by
  first | exact h | (simp [Around.under, Code.weight, Code.isCreation, Code.isGuard, Code.isCaller, Code.frames, Code.isFrame, guardIds, pushGuards, Code.guards, h])
theorem RoomG.make {k : Nat} {A : Around} (r : RoomG (k + 1) A) (C : Addr) (us : List Value) (kw : List (Str × Value)) : RoomG k (A.under (.builtin "type.__call__" ⟨.ref C :: us, kw⟩)) := ⟨r.rm.make C us kw, make_guards r.gd⟩
theorem roomTop {k : Nat} (h : Room k callerA) : RoomG k callerA := ⟨h, rfl⟩
/-- a def's promise where no guard stands -/
structure FnG (P : Program) (w : World) (K : Frag) (mg : Str → Option Value) (base : Heap) (CX : CXT) (k : Nat) (f : Addr) (fd : FuncData) (ps : List Str) (sp : Sp) : Prop where
  len : ∀ vs H Q E, sp vs H Q E → vs.length = ps.length
  run : ∀ (A : Around) (outer : List Env) (s : Shared) (H : Hp) (args : Args) (us : List Value) (vs : List V) (Q : VK) (E : XK), RoomG k A → Env0 P w K mg base A outer s H → BindsTo s fd args (ps.zip us) → Vals vs us → sp vs H Q E →
    codeAny (model P w) A (.call (.ref f) args) (CR CX outer P w H s Q E) s
section
variable {P : Program} {w : World} {K : Frag} {mg : Str → Option Value} {base : Heap} {CX : CXT} {j k : Nat} {f : Addr} {fd : FuncData} {ps : List Str} {sp sp' : Sp}
theorem FnG.mono (F : FnG P w K mg base CX j f fd ps sp) (h : j ≤ k) : FnG P w K mg base CX k f fd ps sp := ⟨F.len, fun A outer s H args us vs Q E hr => F.run A outer s H args us vs Q E (hr.mono h)⟩
theorem FnG.imp (F : FnG P w K mg base CX k f fd ps sp) (h : ∀ vs H Q E, sp' vs H Q E → sp vs H Q E) : FnG P w K mg base CX k f fd ps sp' :=
  ⟨fun vs H Q E q => F.len vs H Q E (h _ _ _ _ q), fun A outer s H args us vs Q E hr he hb hv hs => F.run A outer s H args us vs Q E hr he hb hv (h _ _ _ _ hs)⟩
end
section
variable {X : Cx} {CX : CXT} {k : Nat} {f C : Addr} {fd : FuncData} {ps : List Str} {sp : Sp} {dvs : List V} {ds : List Value} {E : XK} {x m : Str} {p pos apos : Pos} {e o : Expr} {es : List Expr} {ta : TE} {t : TA}
theorem run_fnG {pins : List (Addr × Obj)} {σ : L2.St} {H : Hp} {s : Shared} {Q : VK} {us : List Value} {vs : List V} (F : FnG X.prog X.w X.K X.mg X.base CX k f fd ps sp) (hr : RoomG k X.A) (hb : Binds X.K fd ps ds) (hd : Vals dvs ds) (hx : Passes CX X E)
    (I : Inv X pins σ H s) (r : Vals vs us) (h : sp (vs ++ dvs) H Q E) : wpAny (model X.prog X.w) X.A (call (.ref f) us) (EP X pins σ Q) X.xe s := by
  have r2 := r.append hd
  refine wpAny_call (codeAny_mono (F.run X.A X.stack s H ⟨us, []⟩ (us ++ ds) (vs ++ dvs) Q E hr I.env0 (hb s us I.kIn (by rw [← r2.length]; exact F.len _ _ _ _ h)) r2 h) fun r s' hq => ?_)
  cases r with
  | error e => exact hx pins σ H s e s' I hq
  | ok fl =>
    cases fl with
    | ret u => exact I.after hq
    | _ => exact hq.elim
theorem pe_callG (F : FnG X.prog X.w X.K X.mg X.base CX k f fd ps sp) (hr : RoomG k X.A) (hg : Gl X x) (hm : X.mg x = some (.ref f)) (hk : PySem.W.keepIn X.K (.ref f) = true) (hb : Binds X.K fd ps ds) (hd : Vals dvs ds) (hx : Passes CX X E)
    (ha : PA X (e :: es) t) (hdb : (x == ("__debug__" : Str)) = false := by decide) (he : starEach (e :: es) X.env = (false, eval e X.env) :: starEach es X.env := by rfl) (hpl : (backTo pos (starEach es X.env)).any (·.1) = false := by rfl) :
    PE X (.Call (.Name x p) (e :: es) [] pos) (tCall sp dvs E t) := by
  refine ⟨fun pins s σ H Q I h => wpAny_Call_Name_kw (ld_glob I hg hm ?_ hdb)⟩
  exact PySem.W.callWith_K (h₀ := X.base) I.ok.mod.kin hk (thn (ha.run pos pins s σ H _ I h) fun us s1 ⟨vs, H1, I1, r, q⟩ => ⟨I1.kIn, run_fnG F hr hb hd hx I1 r q⟩) he hpl
theorem pe_methG {pl : Sem Bool} (he : PE X o ta) (c : Cls X.K C) (hm : Meth X.K C m f) (F : FnG X.prog X.w X.K X.mg X.base CX k f fd ps sp) (hr : RoomG k X.A) (hb : Binds X.K fd ps ds) (hd : Vals dvs ds) (hx : Passes CX X E) (ha : PA X (e :: es) t)
    (hst : starEach (e :: es) X.env = (false, eval e X.env) :: starEach es X.env := by rfl) (hpl : (backTo pos (starEach es X.env)).any (·.1) = false := by rfl)
    (ht : eval (.Call (.Attribute o m apos) (e :: es) [] pos) X.env = (do
      let ov ← eval o X.env
      standAt apos.atName
      let (f, first) ← holding [ov] (getMethod ov m pl)
      callWith pos f first (backTo pos (starEach (e :: es) X.env)) (backToKw pos (keywordEach [] X.env))) := by rfl) :
    PE X (.Call (.Attribute o m apos) (e :: es) [] pos) (tMeth C m sp dvs E ta t) := by
  refine ⟨fun pins s σ H Q I h => PySem.W.methodCall_KW (pl := pl) (thn (he.run pins s σ H _ I h) fun u s1 ⟨x, H1, I1, rx, a, dx, fs, ex, ea, l, q⟩ => ?_) ht⟩
  subst ex
  obtain rfl : u = Value.ref a := rx
  refine getmeth_ok I1 ea c hm l ?_
  exact PySem.W.callWith_K (first := [.ref a]) (h₀ := X.base) I.ok.mod.kin hm.kp (thn (ha.run pos pins s1 σ H1 _ I1 q) fun us s2 ⟨vs, H2, I2, r, q2⟩ => ⟨I2.kIn, run_fnG (us := .ref a :: us) (vs := .ref a :: vs) F hr hb hd hx I2 (.cons rfl r) q2⟩) hst hpl
theorem pe_meth0G {pl : Sem Bool} (he : PE X o ta) (c : Cls X.K C) (hm : Meth X.K C m f) (F : FnG X.prog X.w X.K X.mg X.base CX k f fd ps sp) (hr : RoomG k X.A) (hb : Binds X.K fd ps ds) (hd : Vals dvs ds) (hx : Passes CX X E)
    (ht : eval (.Call (.Attribute o m apos) [] [] pos) X.env = (do
      let ov ← eval o X.env
      standAt apos.atName
      let (f, first) ← holding [ov] (getMethod ov m pl)
      callWith pos f first (backTo pos (starEach [] X.env)) (backToKw pos (keywordEach [] X.env))) := by rfl) :
    PE X (.Call (.Attribute o m apos) [] [] pos) (tMeth C m sp dvs E ta tNil) := by
  refine ⟨fun pins s σ H Q I h => PySem.W.methodCall_KW (pl := pl) (thn (he.run pins s σ H _ I h) fun u s1 ⟨x, H1, I1, rx, a, dx, fs, ex, ea, l, q⟩ => ?_) ht⟩
  subst ex
  obtain rfl : u = Value.ref a := rx
  exact getmeth_ok I1 ea c hm l (PySem.W.callWith_K0 (first := [.ref a]) I1.kIn hm.kp (run_fnG (us := [.ref a]) (vs := [.ref a]) F hr hb hd hx I1 (.cons rfl .nil) q))
/-- a def of the text where no guard stands -/
theorem FunD.okG {P : Program} {w : World} {K : Frag} {mg : Str → Option Value} {base : Heap} {qual : Str} {params : Arguments} {body : List Stmt} {scope : Scope} {kws : List (Str × V)} {N : List Str} (F : FunD K x qual params body scope dvs kws f fd) (S : FnScope N ps scope) (len : ∀ vs H Q E, sp vs H Q E → vs.length = ps.length)
    (hbody : ∀ (cdv : Value) (A : Around) (outer : List Env) (s : Shared) (H : Hp) (vs : List V) (Q : VK) (E : XK), RoomG k (A.deeper (envOfC qual scope s.heap.objs.size f cdv)) → sp vs H Q E →
      ∃ t, PSs (cxOf CX P w K mg base N qual scope f cdv A outer s H E) body t ∧ t { nx := fun _ H' => Q .non H', rt := Q } (start N vs) H) : FnG P w K mg base CX (k + 1) f fd ps sp := by
  obtain ⟨oc, od, dV, kV, doc, pm, an, cdv, ct, osl, rfl, lk, hcd, _, _⟩ := F.ex
  refine ⟨len, fun A outer s H args us vs Q E hr e0 hb r hsp => ?_⟩
  have KX : K.In s.heap := e0.mod.kin.keeps fun b o e => (e0.bs b o e).1
  have kinds : ∀ y ∈ ps.zip us, scope.names.lookup y.1 = some .local ∨ (scope.names.lookup y.1 = some .cell ∧ ((cellsFrom (s.heap.objs.size + 1) scope.names []).lookup y.1).isSome = true) := fun y hy =>
    (S.par y.1 (List.of_mem_zip (a := y.1) (b := y.2) hy).1).imp id fun q => ⟨q, PySem.W.cellsFrom_some _ _ _ (.inl q)⟩
  refine codeAny_call_function hr.rm.depth (KX _ _ lk) rfl S.co S.gen rfl (PySem.W.codeRec_of KX hcd) (hb _ _ _ _ (wpAny_newFunctionEnv_cells S.kind kinds fun env he s1 x => ?_))
  subst he
  refine ⟨(e0.mod.nolimit.keeps fun b o e => (e0.bs b o e).1).keeps x.toInCall.keep, codeAny_func ?_⟩
  obtain ⟨t, ht, hq⟩ := hbody cdv A outer s H vs Q E (hr.deeper _) hsp
  refine wpAny_mono (ht.run [] s1 (start N vs) H _ (inv_start S hr.rm.hd e0 (len _ _ _ _ hsp) r x) hq) (fun fl s' hs => ?_) fun e s' hs => hs
  cases fl with
  | ret u =>
    obtain ⟨v, σ', H', J, rv, q⟩ := hs
    exact ⟨v, H', J.os, J.bare, J.base, J.hok, rv, q⟩
  | next =>
    obtain ⟨σ', H', J, q⟩ := hs
    exact ⟨.non, H', J.os, J.bare, J.base, J.hok, rfl, q⟩
  | brk =>
    obtain ⟨_, _, _, q⟩ := hs
    exact q.elim
  | cont =>
    obtain ⟨_, _, _, q⟩ := hs
    exact q.elim
/-- a def that lets nothing out -/
theorem FunD.okN {P : Program} {w : World} {K : Frag} {mg : Str → Option Value} {base : Heap} {qual : Str} {params : Arguments} {body : List Stmt} {scope : Scope} {kws : List (Str × V)} {N : List Str} (F : FunD K x qual params body scope dvs kws f fd) (S : FnScope N ps scope) (len : ∀ vs H Q E, sp vs H Q E → vs.length = ps.length)
    (hbody : ∀ (cdv : Value) (A : Around) (outer : List Env) (s : Shared) (H : Hp) (vs : List V) (Q : VK) (E : XK), RoomG k (A.deeper (envOfC qual scope s.heap.objs.size f cdv)) → sp vs H Q E →
      ∃ t, PSs (cxOf CX P w K mg base N qual scope f cdv A outer s H E).nox body t ∧ t { nx := fun _ H' => Q .non H', rt := Q } (start N vs) H) : FnG P w K mg base CX (k + 1) f fd ps sp :=
  FunD.okG F S len fun cdv A outer s H vs Q E hr h => let ⟨t, a, b⟩ := hbody cdv A outer s H vs Q E hr h; ⟨t, a.nox, b⟩
end
end FM
namespace FM
open PySem PySem.Spec L2 PyProof.Rows
/-! ### a def, from its body's mirror -/
def outsE : List Bool → List O → List O
  | [], _ => []
  | b :: bs, o :: ρ => (if b then o else .dead) :: outsE bs ρ
  | _ :: bs, [] => .dead :: outsE bs []
def deadN : Nat → List O
  | 0 => []
  | n + 1 => .dead :: deadN n
/-- more: the slots behind the parameters; io: which parameters are handed back -/
def defM (more : Nat) (io : List Bool) (m : MS) (os : List O) : FR := match m (os ++ deadN more) with
  | .ret o ρ => .ret o (outsE io ρ)
  | .next ρ => .ret (.fz .none) (outsE io ρ)
  | .exc x ρ => .exc x (outsE io ρ)
  | _ => .bad
/-- .. that lets nothing out -/
def defN (more : Nat) (io : List Bool) (m : MS) (os : List O) : FR := match m (os ++ deadN more) with
  | .ret o ρ => .ret o (outsE io ρ)
  | .next ρ => .ret (.fz .none) (outsE io ρ)
  | _ => .bad
def pinsOf : Nat → List Bool → List V → List (Nat × V)
  | i, true :: bs, w :: ws => (i, w) :: pinsOf (i + 1) bs ws
  | i, false :: bs, _ :: ws => pinsOf (i + 1) bs ws
  | _, _, _ => []
def offB (io : List Bool) (A : List Nat) : Bool := A.all fun j => !(io.getD j false)
theorem pins_io : ∀ {io : List Bool} {ws : List V} {i : Nat} {p : Nat × V}, p ∈ pinsOf i io ws → i ≤ p.1 ∧ io.getD (p.1 - i) false = true ∧ ws[p.1 - i]? = some p.2
  | [], _, _, _, m => by cases m
  | true :: bs, [], _, _, m => by cases m
  | false :: bs, [], _, _, m => by cases m
  | true :: bs, w :: ws, i, p, m => by
    rcases List.mem_cons.mp (show p ∈ (i, w) :: pinsOf (i + 1) bs ws from m) with e | m
    · subst e
      simp
    · obtain ⟨h1, h2, h3⟩ := pins_io m
      have e : p.1 - i = (p.1 - (i + 1)) + 1 := by omega
      refine ⟨by omega, ?_, ?_⟩
      · rw [e]; simpa using h2
      · rw [e]; simpa using h3
  | false :: bs, w :: ws, i, p, m => by
    obtain ⟨h1, h2, h3⟩ := pins_io (show p ∈ pinsOf (i + 1) bs ws from m)
    have e : p.1 - i = (p.1 - (i + 1)) + 1 := by omega
    refine ⟨by omega, ?_, ?_⟩
    · rw [e]; simpa using h2
    · rw [e]; simpa using h3
theorem pins_at : ∀ {io : List Bool} {ws : List V} {i j : Nat} {w : V}, io[j]? = some true → ws[j]? = some w → (i + j, w) ∈ pinsOf i io ws
  | [], _, _, _, _, e, _ => by simp at e
  | _ :: _, [], _, _, _, _, e => by simp at e
  | b :: bs, w :: ws, i, 0, w', e1, e2 => by
    have e1' : b = true := by simpa using e1
    have e2' : w = w' := by simpa using e2
    subst e1' e2'
    exact List.mem_cons_self
  | b :: bs, w :: ws, i, j + 1, w', e1, e2 => by
    have := pins_at (i := i + 1) (j := j) (io := bs) (ws := ws) (w := w') (by simpa using e1) (by simpa using e2)
    have e : i + (j + 1) = i + 1 + j := by omega
    rw [e]
    cases b with
    | true => exact List.mem_cons_of_mem _ this
    | false => exact this
theorem off_pins {io : List Bool} {A : List Nat} {ws : List V} (h : offB io A = true) : Off (pinsOf 0 io ws) A := fun p m z => by
  obtain ⟨_, h2, _⟩ := pins_io m
  have := List.all_eq_true.mp h p.1 z
  rw [Nat.sub_zero] at h2
  rw [h2] at this
  cases this
theorem Owns.envs {k : Kc} {F H : Hp} (n : Nat) : ∀ {ws : List V} {os : List O} {S : List Addr}, Owns k F H ws os S → Envs k F H (ws.map some ++ List.replicate n none) (os ++ deadN n) S
  | _, _, _, .nil => by
    show Envs k F H (List.replicate n none) (deadN n) []
    induction n with
    | zero => exact .nil
    | succ n ih =>
      rw [List.replicate_succ]
      exact .dead ih
  | _, _, _, .cons h r => .cons h (Owns.envs n r)
theorem Envs.outs {k : Kc} {F H : Hp} : ∀ {io : List Bool} {ws : List V} {σ : L2.St} {ρ : List O} {S : List Addr}, Envs k F H σ ρ S → io.length = ws.length → (∀ (j : Nat) (w : V), io[j]? = some true → ws[j]? = some w → σ[j]? = some (some w)) → ∃ T : List Addr, T.Sublist S ∧ Owns k F H ws (outsE io ρ) T
  | [], [], _, _, S, _, _, _ => ⟨[], List.nil_sublist S, .nil⟩
  | [], _ :: _, _, _, _, _, e, _ => by cases e
  | _ :: _, [], _, _, _, _, e, _ => by cases e
  | b :: bs, w :: ws, _, _, _, .nil, e, h => by
    obtain ⟨T, m, q⟩ := Envs.outs (io := bs) (ws := ws) (k := k) (F := F) (H := H) .nil (Nat.succ.inj e) fun j w' e1 e2 => by
      have := h (j + 1) w' (by simpa using e1) (by simpa using e2)
      simp at this
    exact ⟨[] ++ T, m, .cons .dead q⟩
  | b :: bs, w :: ws, _, _, _, .dead r, e, h => by
    obtain ⟨T, m, q⟩ := Envs.outs (io := bs) (ws := ws) r (Nat.succ.inj e) fun j w' e1 e2 => by
      have := h (j + 1) w' (by simpa using e1) (by simpa using e2)
      simpa using this
    refine ⟨[] ++ T, m, ?_⟩
    show Owns k F H (w :: ws) ((if b then .dead else .dead) :: outsE bs _) _
    rw [ite_self]
    exact .cons .dead q
  | b :: bs, w :: ws, _, _, _, .cons (v := v) (S := S1) hv r, e, h => by
    obtain ⟨T, m, q⟩ := Envs.outs (io := bs) (ws := ws) r (Nat.succ.inj e) fun j w' e1 e2 => by
      have := h (j + 1) w' (by simpa using e1) (by simpa using e2)
      simpa using this
    cases b with
    | true =>
      have e0 : v = w := by simpa using h 0 w rfl rfl
      subst e0
      exact ⟨S1 ++ T, List.Sublist.append (.refl _) m, .cons hv q⟩
    | false => exact ⟨[] ++ T, m.trans (List.sublist_append_right _ _), .cons .dead q⟩
/-- a body's run from the promise -/
theorem body_ok {k : Kc} {E : XK} {A : List Nat} {t : TS} {m : MS} {N ps : List Str} {io : List Bool} {more : Nat} {ws : List V} {H : Hp} {Q : VK} (ht : TSm k E A t m) (hA : offB io A = true) (hn : N.length = io.length + more) (h : spM k io.length (defM more io m) ws H Q E) : t { nx := fun _ H' => Q .non H', rt := Q } (start N ws) H := by
  obtain ⟨hl, F, os, S, ow, fr, g⟩ := h
  have es : L2.start N ws = ws.map some ++ List.replicate more none := by
    unfold L2.start
    rw [hl, hn, Nat.add_sub_cancel_left]
  rw [es]
  have hpin : ∀ p ∈ pinsOf 0 io ws, (ws.map some ++ List.replicate more none)[p.1]? = some (some p.2) := fun p m => by
    obtain ⟨_, _, h3⟩ := pins_io m
    rw [Nat.sub_zero] at h3
    have hlt : p.1 < ws.length := by
      rcases Nat.lt_or_ge p.1 ws.length with z | z
      · exact z
      · rw [List.getElem?_eq_none z] at h3; cases h3
    rw [List.getElem?_append_left (by simpa using hlt), List.getElem?_map, h3]
    rfl
  have s0 : St k (pinsOf 0 io ws) ⟨F, H, S⟩ (ws.map some ++ List.replicate more none) (os ++ deadN more) [] [] H := ⟨F, S, [], ow.envs more, .nil, by rw [List.append_nil]; exact fr, hpin⟩
  -- what is handed back
  have back : ∀ {σ : L2.St} {ρ : List O} {vs : List V} {xs : List O} {F' H' : Hp} {S1 S2 : List Addr}, StW k (pinsOf 0 io ws) ⟨F, H, S⟩ σ ρ vs xs F' H' S1 S2 → ∃ T, Owns k F' H' ws (outsE io ρ) T ∧ Fr ⟨F, H, S⟩ F' H' (S2 ++ T) := fun {σ ρ vs xs F' H' S1 S2} s => by
    obtain ⟨T, m, q⟩ := s.env.outs (io := io) (ws := ws) hl.symm fun j w e1 e2 => s.pin (j, w) (by
      have := pins_at (i := 0) e1 e2
      rwa [Nat.zero_add] at this)
    refine ⟨T, q, Sbp.fr s.fr (.of_count fun a => ?_)⟩
    have := m.count_le a
    simp only [List.count_append]
    omega
  refine ht _ _ _ _ [] [] H _ (off_pins hA) s0 ?_
  unfold defM at g
  cases e1 : m (os ++ deadN more) with
  | bad => rw [e1] at g; exact g
  | brk ρ => rw [e1] at g; exact g.elim
  | cont ρ => rw [e1] at g; exact g.elim
  | next ρ =>
    rw [e1] at g
    intro σ H' s
    obtain ⟨F', S1, S2, s⟩ := s
    obtain ⟨T, q, f⟩ := back s
    exact g .non H' ⟨F', [] ++ T, .cons (.fz .non) q, f.sub (List.sublist_append_right _ _)⟩
  | ret o ρ =>
    rw [e1] at g
    intro σ v H' s
    obtain ⟨F', S1, S2, s⟩ := s
    obtain ⟨T, q, f⟩ := back s
    cases s.tmp with
    | @cons _ _ _ _ T1 U w r =>
      cases r
      rw [List.append_nil] at f
      exact g v H' ⟨F', T1 ++ T, .cons w q, f⟩
  | exc x ρ =>
    rw [e1] at g
    intro σ c d H' s
    obtain ⟨F', S1, S2, s, xr⟩ := s
    obtain ⟨T, q, f⟩ := back s
    exact g c d H' ⟨F', T, q, f.sub (List.sublist_append_right _ _), xr⟩
theorem FOk.imp {k : Kc} {e : Ent} {ws : List V} {Q : VK} {E E' : XK} {more : Nat} {io : List Bool} {m : MS} {os : List O} (h : FOk k e ws Q E (defN more io m os)) : FOk k e ws Q E' (defM more io m os) := by
  unfold defN at h
  unfold defM
  cases e1 : m (os ++ deadN more) with
  | ret o ρ => rw [e1] at h; exact h
  | next ρ => rw [e1] at h; exact h
  | _ => rw [e1] at h; exact h.elim
theorem body_okN {k : Kc} {A : List Nat} {t : TS} {m : MS} {N ps : List Str} {io : List Bool} {more : Nat} {ws : List V} {H : Hp} {Q : VK} {E E' : XK} (ht : TSm k E' A t m) (hA : offB io A = true) (hn : N.length = io.length + more) (h : spM k io.length (defN more io m) ws H Q E) : t { nx := fun _ H' => Q .non H', rt := Q } (start N ws) H := by
  obtain ⟨hl, F, os, S, ow, fr, g⟩ := h
  exact body_ok (ps := ps) ht hA hn ⟨hl, F, os, S, ow, fr, g.imp⟩
/-! ### a def of the text -/
section
variable {P : Program} {w : World} {K : Frag} {mg : Str → Option Value} {base : Heap} {CX : CXT} {x qual : Str} {params : Arguments} {body : List Stmt} {scope : Scope} {dvs : List V} {kws : List (Str × V)} {f : Addr} {fd : FuncData} {N ps : List Str} {io : List Bool} {more k : Nat} {kc : Kc}
theorem def_okN {m : MS} (F : FunD K x qual params body scope dvs kws f fd) (S : FnScope N ps scope) (hp : io.length = ps.length) (hn : N.length = io.length + more)
    (hbody : ∀ (cdv : Value) (A : Around) (outer : List Env) (s : Shared) (H : Hp) (E : XK), RoomG k (A.deeper (envOfC qual scope s.heap.objs.size f cdv)) →
      ∃ t J, PSs (cxOf CX P w K mg base N qual scope f cdv A outer s H E).nox body t ∧ TSm kc E0 J t m ∧ offB io J = true) : FnG P w K mg base CX (k + 1) f fd ps (spM kc io.length (defN more io m)) := by
  refine FunD.okN F S (fun vs H Q E h => h.1.trans hp) fun cdv A outer s H vs Q E hr h => ?_
  obtain ⟨t, J, h1, h2, h3⟩ := hbody cdv A outer s H E hr
  exact ⟨t, h1, body_okN (ps := ps) h2 h3 hn h⟩
theorem FnG.quiet {n : Nat} {g : List O → FR} (F : FnG P w K mg base CX k f fd ps (spM kc n g)) : FnG P w K mg base CX k f fd ps (spQ kc n (qOf g)) := F.imp fun _ _ _ _ h => h.imp
end
/-! ### the law's end -/
theorem law_callG {P : Program} {w : World} {K : Frag} {mg mb : Str → Option Value} {CX : CXT} {k : Nat} {fa a : Addr} {fd : FuncData} {x : Str} {sp : Sp} {s₁ : Shared} {vs : List Value} {ns : List Int}
    (KX : K.In s₁.heap) (hns : s₁.heap.Ns mainGlobals mg) (hb : s₁.heap.Ns builtinsNs mb) (hbb : ∀ x : Str, x ≠ "__name__" → mb x = bootBuiltins x) (hlim : s₁.heap.NoLimit) (hg : s₁.gens = #[])
    (ha : s₁.heap.get? a = some { cls := .type "list", data := .seq vs.toArray }) (hi : IntsAre vs ns) (hl : ns.length ≤ sizeLine) (hr : Room k callerA)
    (F : ∀ base : Heap, K.In base → base.Ns mainGlobals mg → FnG P w K mg base CX k fa fd [x] sp) (hbind : ∀ (s : Shared) (u : Value), BindsTo s fd ⟨[u], []⟩ [(x, u)])
    (hsp : ∀ H : Hp, Only H → SqL K H a (ns.map V.int) → sp [.ref a] H (fun v _ => v = .bl true) fun _ _ _ => False)
    (hCX : ∀ H e s', CX [] H s₁ (fun _ _ _ => False) e s' → False) :
    codeAny (model P w) callerA (.call (.ref fa) ⟨[.ref a], []⟩) (fun r s' => r = .ok (.ret (.bool true)) ∧ OldK s₁.heap s'.heap ∧ s'.os = s₁.os ∧ AllBare s'.gens) s₁ := by
  have rv := vals_ints hi
  have lenV := hi.length
  -- H: nothing, or the script alone
  have core : ∀ H : Hp, Only H → SqL K H a (ns.map V.int) → HOk P w H s₁.heap → (∀ b, H b ≠ none → b = a ∧ K.lookup a = none) →
      codeAny (model P w) callerA (.call (.ref fa) ⟨[.ref a], []⟩) (fun r s' => r = .ok (.ret (.bool true)) ∧ OldK s₁.heap s'.heap ∧ s'.os = s₁.os ∧ AllBare s'.gens) s₁ := by
    intro H hO hS hok hA
    have other : ∀ {b : Addr}, b ≠ a → H b = none := fun {b} n => by
      cases q : H b with
      | none => rfl
      | some u => exact (n (hA b (by rw [q]; simp)).1).elim
    have nsB : ∀ {b : Addr} {m : Str → Option Value}, s₁.heap.Ns b m → (hidT s₁.heap H).Ns b m := fun {b m} ⟨o, es, ep, e, d, r⟩ => ⟨o, es, ep, hidT_get e (other fun z => by
      subst z
      rw [ha] at e
      cases e
      exact Data.noConfusion (show Data.seq vs.toArray _ = Data.dict es ep from d)), d, r⟩
    have hKb : K.In (hidT s₁.heap H) := fun b o e => hidT_get (KX b o e) (by
      cases q : H b with
      | none => rfl
      | some u =>
        obtain ⟨e1, e2⟩ := hA b (by rw [q]; simp)
        subst e1
        rw [e2] at e
        cases e)
    have hM : Mod K mg (hidT s₁.heap H) := ⟨hKb, nsB hns, ⟨mb, nsB hb, hbb⟩, let ⟨mc, h1, h2⟩ := hlim; ⟨mc, nsB h1, h2⟩⟩
    have e0 : Env0 P w K mg (hidT s₁.heap H) callerA [] s₁ H := ⟨rfl, hM, fun b o e => of_hidT e, Nat.le_of_eq (hidT_size _ _), trivial, fun b z => absurd (show b ∈ ([] : List Addr) from z) (by simp), hok, .of_eq hg⟩
    refine codeAny_mono ((F _ hKb (nsB hns)).run callerA [] s₁ H ⟨[.ref a], []⟩ [.ref a] [.ref a] _ _ (roomTop hr) e0 (hbind s₁ (.ref a)) (.cons rfl .nil) (hsp H hO hS)) fun r s' h => ?_
    cases r with
    | error e => exact (hCX H e s' h).elim
    | ok fl =>
      cases fl with
      | ret u =>
        obtain ⟨v, H', os, bare, un, hok', r', q⟩ := h
        have q' : v = .bl true := q
        subst q'
        obtain rfl : u = Value.bool true := r'
        refine ⟨rfl, OldK.of_keep fun b o e => ?_, os, bare⟩
        rcases hO b with z | ⟨ob, xs, z⟩
        · exact un.keep b o e z (fun m => absurd (show b ∈ ([] : List Addr) from m) (by simp)) (by simp)
        · obtain ⟨e1, _⟩ := hok b _ z
          obtain ⟨e2, _⟩ := hok' b _ (un.frzs b ob _ z)
          rw [e] at e1
          cases e1
          exact e2
      | _ => exact h.elim
  cases hk : K.lookup a with
  | some o =>
    have e := KX a o hk
    rw [ha] at e
    cases e
    exact core (fun _ => none) (fun _ => .inl rfl) (.inr ⟨_, vs.toArray, _, hk, rfl, rfl, rfl, by rw [List.size_toArray, lenV]; exact hl, by simpa using rv⟩) (fun b u z => by cases z) fun b z => absurd rfl z
  | none =>
    let H : Hp := fun b => if b = a then some (.frz { cls := .type "list", data := .seq vs.toArray } (.lst (ns.map V.int))) else none
    have at_ : H a = some (.frz { cls := .type "list", data := .seq vs.toArray } (.lst (ns.map V.int))) := if_pos rfl
    have off : ∀ b, b ≠ a → H b = none := fun b n => if_neg n
    refine core H (fun b => ?_) (.inl (.inr ⟨_, at_⟩)) (fun b u z => ?_) fun b z => ⟨Classical.byContradiction fun n => z (off b n), hk⟩
    · by_cases hb : b = a
      · subst hb
        exact .inr ⟨_, _, at_⟩
      · exact .inl (off b hb)
    · by_cases hb : b = a
      · subst hb
        rw [at_] at z
        cases z
        exact ⟨ha, by rw [List.length_map]; exact hl, vs, _, rv, ha⟩
      · rw [off b hb] at z
        cases z
theorem walk_ofG {l : PySem.W.OpenLaw} {n k : Nat} {q : Program} {loose : List Str} {XP : (Str → Option Value) → Heap → Prop} {YP : World → Heap → Prop} {d : DefRec} {CX : World → CXT} {x : Str}
    (hn : l.most = some n) (hn2 : n ≤ sizeLine) (hdf : d.params.defaults = []) (hr : Room k callerA)
    (F : ∀ (w : World) (mg : Str → Option Value) (fa : Addr) (h : Heap), YP w h → h.Ns mainGlobals mg → mg d.name = some (.ref fa) →
      ∃ (K : Frag) (kc : Kc) (fd : FuncData) (f : List O → FR), K.In h ∧ kc.K = K ∧ (∀ (s : Shared) (u : Value), BindsTo s fd ⟨[u], []⟩ [(x, u)]) ∧
        (∀ ns : List Int, ns.length ≤ n → ∃ outs, f [.fz (.list (ns.map .int))] = .ret (.fz (.bool true)) outs) ∧
        ∀ base : Heap, K.In base → base.Ns mainGlobals mg → FnG l.prog w K mg base (CX w) k fa fd [x] (spM kc 1 f))
    (hCX : ∀ (w : World) (H : Hp) (s : Shared) (e : Value) (s' : Shared), CX w [] H s (fun _ _ _ => False) e s' → False) :
    PySem.W.WalkO q loose XP YP l.row.toRowW d [] (fun f vs => PySem.call f vs) := by
  refine Att.attach_call hn hdf fun w s₀ s₁ mg mb fa o pm cd doc a vs ns G Y ho hd hcd hmg hobj hints hlen hg => ?_
  obtain ⟨K, kc, fd, f, KX, hk, hb, hsp, hF⟩ := F w mg fa _ Y G.T.g hmg
  refine law_callG KX G.T.g G.T.b G.T.builtins G.T.nolimit hg hobj hints (Nat.le_trans hlen hn2) hr hF hb (fun H hO hS => ?_) fun H e s' => hCX w H s₁ e s'
  subst hk
  obtain ⟨outs, e⟩ := hsp ns hlen
  have fle : FLe H H := fun a u e => .inl e
  have repI : ∀ ns : List Int, Reps kc.K H (ns.map V.int) (ns.map .int) := fun ns => by
    induction ns with
    | nil => exact .nil
    | cons i ns ih => exact .cons (.int i) ih
  refine ⟨rfl, H, [.fz (.list (ns.map .int))], [], .cons (S := []) (T := []) (.fz (.lst hS (repI ns))) .nil, ⟨fle, .nil, (fun a m => by cases m), (fun a m => by cases m), (fun a m => by cases m), (fun a m => by cases m), Same.refl _, fun a u z => .inl (by show H a ≠ none; rw [z]; simp), fun _ _ z _ => z, fun _ n => n⟩, ?_⟩
  rw [e]
  intro v H' z
  obtain ⟨F', S', p1, p2⟩ := z
  cases p1 with
  | cons w r =>
    cases w with
    | fz w =>
      cases w with
      | bl => rfl
      | dic _ _ e => cases e
      | dit _ _ e => cases e
end FM
namespace FM
open PySem PySem.Spec L2 PyProof.Rows
/-! ### a list or a tuple that is walked -/
def iAny (K : Frag) (tl : TE) : TI := fun σ H R => tl σ H fun x H1 => ∃ a, x = .ref a ∧ (((∃ xs, SqL K H1 a xs) ∧ R (Itl K a) H1) ∨ ((∃ xs, SqT K H1 a xs) ∧ R (Itt K a) H1))
theorem pi_any {X : Cx} {tg l : Expr} {tl : TE} (hl : PE X l tl) : PI X tg l (iAny X.K tl) := by
  refine ⟨fun pins s σ H R I h => thn (hl.run pins s σ H _ I h) fun v s1 ⟨x, H1, I1, r1, q1⟩ => ?_⟩
  obtain ⟨a, rfl, q1⟩ := q1
  cases r1
  have fp : ∀ b ∈ [s1.heap.objs.size], FpOk X pins H1 b := fun b hb => (List.mem_singleton.mp hb).symm ▸ I1.fpOk (Nat.le_refl _) (I1.hok.fresh (Nat.le_refl _))
  rcases q1 with ⟨⟨xs, hq⟩, q⟩ | ⟨⟨xs, hq⟩, q⟩
  · obtain ⟨its, rv, p, hz⟩ := I1.list hq
    exact wpAny_pyIter_list p.isList ⟨s1.heap.objs.size, [s1.heap.objs.size], _, _, H1, rfl, I1.kept (t' := s1.toks) fun b o e => Heap.get?_push_of_some _ e, turn_list a _, ⟨_, Heap.get?_push_size _ rfl, rfl, rfl⟩, fp, q⟩
  · obtain ⟨its, rv, p, hz⟩ := I1.tuple hq
    exact wpAny_pyIter_tuple (show s1.heap.IsTuple a its.toArray from p) ⟨s1.heap.objs.size, [s1.heap.objs.size], _, _, H1, rfl, I1.kept (t' := s1.toks) fun b o e => Heap.get?_push_of_some _ e, turn_tuple a _, ⟨_, Heap.get?_push_size _ rfl, rfl, rfl⟩, fp, q⟩
def fzA : O → Option (List PD)
  | .fz (.list ds) => some ds
  | .fz (.tuple ds) => some ds
  | .ktp ds => some ds
  | _ => none
def viA : O → Option (List PD)
  | .fz (.list ds) => some ds
  | .fz (.tuple ds) => some ds
  | .ktp ds => some ds
  | .lst ds => some ds
  | _ => none
theorem fzA_or {o : O} {ds : List PD} (e : fzA o = some ds) : fzL o = some ds ∨ seqR o = some ds := by
  unfold fzA at e
  split at e
  · exact .inl e
  · exact .inr e
  · exact .inr e
  · cases e
theorem viA_or {o : O} {ds : List PD} (e : viA o = some ds) : seqL o = some ds ∨ seqR o = some ds := by
  unfold viA at e
  split at e
  · exact .inl e
  · exact .inr e
  · exact .inr e
  · exact .inl e
  · cases e
def qItA (a : QE) : QI := fun ρ => match a ρ with
  | none => none
  | some x => viA x
def qIfA (a : QE) : QI := fun ρ => match a ρ with
  | none => none
  | some x => fzA x
section
variable {k : Kc} {E : XK} {te : TE} {qa : QE} {m : M O}
theorem tiv_any (ha : TEv k te qa) : TIv k (iAny k.K te) (qItA qa) := by
  intro F H σ ρ S ds R q e g
  unfold qItA at e
  cases e1 : qa ρ with
  | none => rw [e1] at e; cases e
  | some x =>
    rw [e1] at e
    refine ha F H σ ρ S x _ q e1 fun v F1 H1 x1 w1 => ?_
    rcases viA_or e with e | e
    · obtain ⟨a, vs, rfl, g1, g2⟩ := w1.seqL x1.fle e
      exact ⟨a, rfl, .inl ⟨⟨vs, g1⟩, g _ F1 H1 x1 (walkD_list (fun F2 H2 p f => ⟨sqL_sub p.ex g1, g2.sub p.sub⟩) g2.length)⟩⟩
    · obtain ⟨a, vs, rfl, g1, g2⟩ := w1.seqR x1.fle e
      exact ⟨a, rfl, .inr ⟨⟨vs, g1⟩, g _ F1 H1 x1 (walkD_tup (fun F2 H2 p f => ⟨sqT_sub p.ex g1, g2.sub p.sub⟩) g2.length)⟩⟩
theorem tif_any (ha : TEv k te qa) : TIf k (iAny k.K te) (qIfA qa) := by
  intro F H σ ρ S ds R q e g
  unfold qIfA at e
  cases e1 : qa ρ with
  | none => rw [e1] at e; cases e
  | some x =>
    rw [e1] at e
    refine ha F H σ ρ S x _ q e1 fun v F1 H1 x1 w1 => ?_
    rcases fzA_or e with e | e
    · obtain ⟨a, vs, rfl, g1, g2⟩ := w1.fzL e
      exact ⟨a, rfl, .inl ⟨⟨vs, sqL_le x1.fle g1⟩, g _ F1 H1 x1 (walkD_list (fun F2 H2 p f => ⟨sqL_le f (sqL_sub p g1), g2.sub p⟩) g2.length)⟩⟩
    · obtain ⟨a, vs, rfl, g1, g2⟩ := w1.fzR e
      exact ⟨a, rfl, .inr ⟨⟨vs, sqT_le x1.fle (g1 F1 (Same.refl _))⟩, g _ F1 H1 x1 (walkD_tup (fun F2 H2 p f => ⟨sqT_le f (g1 F2 p), g2.sub p⟩) g2.length)⟩⟩
def iAnyM (m : M O) : M (List PD) := fun ρ => match m ρ with
  | .ok o ρ1 => match fzA o with
    | some ds => .ok ds ρ1
    | none => .bad
  | .exc x ρ1 => .exc x ρ1
  | .bad => .bad
theorem tim_any (h : TEm k E te m) : TIm k E (iAny k.K te) (iAnyM m) := by
  intro P e σ ρ vs os H R s g
  refine h P e σ ρ vs os H _ s ?_
  unfold iAnyM at g
  cases e1 : m ρ with
  | exc x ρ1 => rw [e1] at g; exact g
  | bad => rw [e1] at g; exact g
  | ok o ρ1 =>
    rw [e1] at g
    intro v H1 s1
    simp only at g
    cases e2 : fzA o with
    | none => rw [e2] at g; exact g.elim
    | some ds =>
      rw [e2] at g
      obtain ⟨F, S1, S2, env, tmp, fr, pin⟩ := s1
      cases tmp with
      | @cons _ _ _ _ T U w r =>
        have s2 : StW k P e σ ρ1 vs os F H1 S1 U := ⟨env, r, fr.sub (List.Sublist.append (.refl _) (List.sublist_append_right _ _)), pin⟩
        have vw : Vw k F H1 T v o := ⟨T, fun _ z => z, w⟩
        rcases fzA_or e2 with e3 | e3
        · obtain ⟨a, vs, rfl, g1, g2⟩ := vw.fzL e3
          exact ⟨a, rfl, .inl ⟨⟨vs, sqL_le fr.fle g1⟩, g _ F H1 S1 U s2 (walkD_list (fun F2 H2 p f => ⟨sqL_le f (sqL_sub p g1), g2.sub p⟩) g2.length)⟩⟩
        · obtain ⟨a, vs, rfl, g1, g2⟩ := vw.fzR e3
          exact ⟨a, rfl, .inr ⟨⟨vs, sqT_le fr.fle (g1 F (Same.refl _))⟩, g _ F H1 S1 U s2 (walkD_tup (fun F2 H2 p f => ⟨sqT_le f (g1 F2 p), g2.sub p⟩) g2.length)⟩⟩
end
/-! ### calls by name -/
theorem RoomG.u1 {k : Nat} {A : Around} (r : RoomG k A) : A.units + 1 < cLine := by have := r.rm.un; omega
theorem RoomG.u64 {k : Nat} {A : Around} (r : RoomG k A) : A.units + 64 < cLine := by have := r.rm.un; omega
theorem RoomG.u65 {k : Nat} {A : Around} (r : RoomG k A) : A.units + 65 < cLine := by have := r.rm.un; omega
abbrev CXg (P : Program) (w : World) : CXT := L2.CX P w
structure CalG (P : Program) (w : World) (K : Frag) (mg : Str → Option Value) (base : Heap) (k : Nat) (x : Str) (sp : Sp) : Prop where
  ex : ∃ (f : Addr) (fd : FuncData) (ps : List Str), FnG P w K mg base (CXg P w) k f fd ps sp ∧ mg x = some (.ref f) ∧ PySem.W.keepIn K (.ref f) = true ∧ Binds K fd ps []
section
variable {P : Program} {w : World} {K : Frag} {mg : Str → Option Value} {base : Heap} {k : Nat} {x : Str}
theorem CalG.quiet {kc : Kc} {n : Nat} {g : List O → FR} (c : CalG P w K mg base k x (spM kc n g)) : CalG P w K mg base k x (spQ kc n (qOf g)) :=
  let ⟨f, fd, ps, F, h⟩ := c.ex
  ⟨f, fd, ps, F.quiet, h⟩
end
section
variable {X : Cx} {j k : Nat} {sp : Sp} {E : XK} {x : Str} {p pos : Pos} {e : Expr} {es : List Expr} {t : TA}
theorem pe_g (c : CalG X.prog X.w X.K X.mg X.base k x sp) (hr : RoomG j X.A) (hk : k ≤ j) (hx : Passes (CXg X.prog X.w) X E) (hg : Gl X x) (ha : PA X (e :: es) t)
    (hdb : (x == ("__debug__" : Str)) = false := by decide) (he : starEach (e :: es) X.env = (false, eval e X.env) :: starEach es X.env := by rfl) (hpl : (backTo pos (starEach es X.env)).any (·.1) = false := by rfl) : PE X (.Call (.Name x p) (e :: es) [] pos) (tCall sp [] E t) := by
  obtain ⟨f, fd, ps, F, hm, kp, b⟩ := c.ex
  exact pe_callG F (hr.mono hk) hg hm kp b .nil hx ha hdb he hpl
end
theorem qlen_nil (ρ os : List O) (e : qNil ρ = some os) : os.length = 0 := by
  have e' := Option.some.inj e
  rw [← e']
  rfl
theorem qlen_cons {a : QE} {r : List O → Option (List O)} {n : Nat} (h : ∀ ρ os, r ρ = some os → os.length = n) (ρ os : List O) (e : qCons a r ρ = some os) : os.length = n + 1 := by
  unfold qCons at e
  split at e
  · cases e
  · split at e
    · cases e
    · rename_i e2
      have e' := Option.some.inj e
      rw [← e', List.length_cons, h _ _ e2]
theorem cx_none {P : Program} {w : World} (H : Hp) (s : Shared) (e : Value) (s' : Shared) (h : CXg P w [] H s E0 e s') : False := by
  obtain ⟨_, _, _, _, _, _, _, _, _, _, _, _, z⟩ := h
  exact z
end FM
namespace FM
open PySem PySem.Spec L2 PyProof.Rows
/-! ### what a mirror comes to -/
def wM {α : Type} (r : R α) (Q : α → List O → Prop) : Prop := match r with
  | .ok a ρ => Q a ρ
  | _ => False
def wS (r : RS) (nx : List O → Prop) (rt : O → List O → Prop) (bk ct : List O → Prop) : Prop := match r with
  | .next ρ => nx ρ
  | .ret o ρ => rt o ρ
  | .brk ρ => bk ρ
  | .cont ρ => ct ρ
  | _ => False
def wF (r : FR) (Q : O → List O → Prop) : Prop := match r with
  | .ret o outs => Q o outs
  | _ => False
section
variable {ρ : List O} {Q : O → List O → Prop} {nx bk ct : List O → Prop} {rt : O → List O → Prop} {q : QE} {m m1 m2 : M O} {c : M Bool} {a b : MS} {QB : Bool → List O → Prop} {QL : List O → List O → Prop} {ml : M (List O)}
@[simp] theorem wM_ok {α : Type} {x : α} {Q : α → List O → Prop} : wM (.ok x ρ) Q = Q x ρ := rfl
@[simp] theorem wM_lift : wM (mLift q ρ) Q = ∃ d, q ρ = some (.fz d) ∧ Q (.fz d) ρ := by
  unfold mLift
  apply propext
  split
  · rename_i d e
    exact ⟨fun h => ⟨d, e, h⟩, fun ⟨d', e', h⟩ => by rw [e] at e'; cases e'; exact h⟩
  · rename_i hn
    exact ⟨fun h => h.elim, fun ⟨d', e', h⟩ => (hn d' e').elim⟩
@[simp] theorem wM_new : wM (mNew q ρ) Q = ∃ o, q ρ = some o ∧ Q o ρ := by
  unfold mNew
  cases e : q ρ <;> simp [wM]
@[simp] theorem wM_frz : wM (frzM m ρ) Q = wM (m ρ) fun o ρ1 => ∃ d, toPD o = some d ∧ Q (.fz d) ρ1 := by
  unfold frzM
  cases e : m ρ with
  | ok o ρ1 =>
    simp only [wM_ok]
    cases e2 : toPD o <;> simp [wM]
  | _ => rfl
@[simp] theorem wM_move {i : Nat} : wM (mMove i ρ) Q = ∃ o, qVar i ρ = some o ∧ Q o (ρ.set i .dead) := by
  unfold mMove
  cases e : qVar i ρ <;> simp [wM]
@[simp] theorem wM_op {f : O → O → Option O} : wM (mOp f m1 m2 ρ) Q = wM (m1 ρ) fun o1 ρ1 => ∃ d1, o1 = .fz d1 ∧ wM (m2 ρ1) fun o2 ρ2 => ∃ d2, o2 = .fz d2 ∧ ∃ d, f (.fz d1) (.fz d2) = some (.fz d) ∧ Q (.fz d) ρ2 := by
  unfold mOp
  cases e : m1 ρ with
  | ok o ρ1 =>
    cases o with
    | fz d1 =>
      simp only [wM_ok]
      cases e2 : m2 ρ1 with
      | ok o2 ρ2 =>
        cases o2 with
        | fz d2 =>
          cases e3 : f (.fz d1) (.fz d2) with
          | none => simp [wM, e2, e3]
          | some z => cases z <;> simp [wM, e2, e3]
        | _ => simp [wM, e2]
      | _ => simp [wM, e2]
    | _ => simp [wM]
  | _ => simp [wM]
@[simp] theorem wM_bLift {q : List O → Option Bool} : wM (bLift q ρ) QB = ∃ t, q ρ = some t ∧ QB t ρ := by
  unfold bLift
  cases e : q ρ <;> simp [wM]
@[simp] theorem wM_bTest : wM (bTest m ρ) QB = wM (m ρ) fun o ρ1 => ∃ t, o = .fz (.bool t) ∧ QB t ρ1 := by
  unfold bTest
  cases e : m ρ with
  | ok o ρ1 =>
    cases o with
    | fz d =>
      cases d with
      | bool t => cases t <;> simp
      | _ => simp [wM]
    | _ => simp [wM]
  | _ => rfl
@[simp] theorem wM_bOr {d : M Bool} : wM (bOr c d ρ) QB = wM (c ρ) fun t ρ1 => (t = false → wM (d ρ1) QB) ∧ (t = true → QB true ρ1) := by
  unfold bOr
  cases e : c ρ with
  | ok t ρ1 => cases t <;> simp
  | _ => rfl
@[simp] theorem wM_bNot : wM (bNot c ρ) QB = wM (c ρ) fun t ρ1 => QB (!t) ρ1 := by
  unfold bNot
  cases e : c ρ <;> rfl
@[simp] theorem wM_nil : wM (mNil ρ) QL = QL [] ρ := rfl
@[simp] theorem wM_cons : wM (mCons m ml ρ) QL = wM (m ρ) fun o ρ1 => wM (ml ρ1) fun xs ρ2 => QL (o :: xs) ρ2 := by
  unfold mCons
  cases e : m ρ with
  | ok o ρ1 =>
    simp only [wM_ok]
    cases e2 : ml ρ1 <;> rfl
  | _ => rfl
@[simp] theorem wM_ref {i : Nat} : wM (mRef i ml ρ) QL = ((∃ o, qVar i ρ = some o) ∧ wM (ml ρ) fun xs ρ2 => QL (.dead :: xs) ρ2) := by
  unfold mRef
  cases e : qVar i ρ with
  | none => simp [wM]
  | some o =>
    cases e2 : ml ρ <;> simp [wM]
@[simp] theorem wM_call {f : List O → FR} {as : List (Option Nat)} : wM (mCall f as ml ρ) Q = wM (ml ρ) fun xs ρ1 => match fillA as xs ρ1 with
    | some z => wF (f z.1) fun o outs => Q o (backA as outs z.2)
    | none => False := by
  unfold mCall
  cases e : ml ρ with
  | ok xs ρ1 =>
    simp only [wM_ok]
    cases e2 : fillA as xs ρ1 with
    | none => simp [wM]
    | some z =>
      simp only
      cases e3 : f z.1 <;> simp [wM, wF, e3]
  | _ => rfl
@[simp] theorem refO_fz {d : PD} : refO (.fz d) = false := rfl
@[simp] theorem refO_lst {ds : List PD} : refO (.lst ds) = true := rfl
@[simp] theorem refO_dic {ds : List (Key × PD)} : refO (.dic ds) = true := rfl
@[simp] theorem refO_dit {ds : List (List Key × PD)} : refO (.dit ds) = true := rfl
@[simp] theorem refO_nst {ds : List O} : refO (.nst ds) = true := rfl
@[simp] theorem refO_ntp {ds : List O} : refO (.ntp ds) = true := rfl
@[simp] theorem refO_ndc {ds : List (Key × O)} : refO (.ndc ds) = true := rfl
@[simp] theorem refO_ins {c : Nat} {ds : List (Str × O)} : refO (.ins c ds) = true := rfl
@[simp] theorem wM_tup : wM (mTup ml ρ) Q = wM (ml ρ) fun xs ρ1 => xs.length ≤ sizeLine ∧ match fzs xs with
    | some ds => Q (.fz (.tuple ds)) ρ1
    | none => xs.any refO = true ∧ Q (.ntp xs) ρ1 := by
  unfold mTup
  cases e : ml ρ with
  | ok xs ρ1 =>
    simp only [wM_ok]
    split
    · rename_i h
      cases e2 : fzs xs with
      | some ds => simp [h]
      | none =>
        by_cases hr : xs.any refO = true
        · simp [h, hr]
        · simp only [hr, if_false]
          simp [wM]
    · rename_i h
      simp [wM, h]
  | _ => rfl
@[simp] theorem wM_mt {i : Nat} {f : List PD → List PD → Option (PD × List PD)} : wM (mMt i f ml ρ) Q = ((∃ ds, qVar i ρ = some (.lst ds)) ∧ wM (ml ρ) fun xs ρ1 => ∃ zs, fzs xs = some zs ∧ ∃ ds, qVar i ρ1 = some (.lst ds) ∧ ∃ d ds', f ds zs = some (d, ds') ∧ Q (.fz d) (ρ1.set i (.lst ds'))) := by
  unfold mMt
  cases e0 : qVar i ρ with
  | none => simp [wM]
  | some o0 =>
    cases o0 with
    | lst ds0 =>
      cases e : ml ρ with
      | ok xs ρ1 =>
        simp only [wM_ok]
        cases e2 : fzs xs with
        | none => simp [wM]
        | some zs =>
          simp only
          cases e3 : qVar i ρ1 with
          | none => simp [wM, e3]
          | some o1 =>
            cases o1 with
            | lst ds =>
              cases e4 : f ds zs with
              | none => simp [wM, e3, e4]
              | some r => obtain ⟨d, ds'⟩ := r; simp [wM, e3, e4]; exact ⟨fun h => ⟨d, ds', ⟨rfl, rfl⟩, h⟩, fun ⟨_, _, ⟨e1, e2⟩, h⟩ => by rw [e1, e2]; exact h⟩
            | _ => simp [wM, e3]
      | _ => simp [wM]
    | _ => simp [wM]
@[simp] theorem wM_iLift {q : QI} {Q : List PD → List O → Prop} : wM (iLift q ρ) Q = ∃ ds, q ρ = some ds ∧ Q ds ρ := by
  unfold iLift
  cases e : q ρ <;> simp [wM]
@[simp] theorem wM_iAnyM {Q : List PD → List O → Prop} : wM (iAnyM m ρ) Q = wM (m ρ) fun o ρ1 => ∃ ds, fzA o = some ds ∧ Q ds ρ1 := by
  unfold iAnyM
  cases e : m ρ with
  | ok o ρ1 => cases e2 : fzA o <;> simp [wM, e2]
  | _ => rfl
/-! statements -/
@[simp] theorem wS_next : wS (sNext ρ) nx rt bk ct = nx ρ := rfl
theorem wS_seq : wS (sSeq a b ρ) nx rt bk ct = wS (a ρ) (fun ρ1 => wS (b ρ1) nx rt bk ct) rt bk ct := by
  unfold sSeq
  cases e : a ρ <;> rfl
@[simp] theorem wS_drop : wS (sDrop m ρ) nx rt bk ct = wM (m ρ) fun _ ρ1 => nx ρ1 := by
  unfold sDrop
  cases e : m ρ <;> rfl
@[simp] theorem wS_ret : wS (sRet m ρ) nx rt bk ct = wM (m ρ) rt := by
  unfold sRet
  cases e : m ρ <;> rfl
@[simp] theorem wS_set {j : Nat} : wS (sSet j m ρ) nx rt bk ct = wM (m ρ) fun o ρ1 => nx (ρ1.set j o) := by
  unfold sSet
  cases e : m ρ <;> rfl
@[simp] theorem wS_asg {f : QG} : wS (sAsg f m ρ) nx rt bk ct = wM (m ρ) fun o ρ1 => ∃ d, o = .fz d ∧ ∃ ρ2, f d ρ1 = some ρ2 ∧ nx ρ2 := by
  unfold sAsg
  cases e : m ρ with
  | ok o ρ1 =>
    cases o with
    | fz d => cases e2 : f d ρ1 <;> simp [wS, e2]
    | _ => simp [wS]
  | _ => rfl
@[simp] theorem wS_par {i j : Nat} : wS (sPar i j ml ρ) nx rt bk ct = wM (ml ρ) fun xs ρ1 => match xs with
    | [o1, o2] => nx ((ρ1.set i o1).set j o2)
    | _ => False := by
  unfold sPar
  cases e : ml ρ with
  | ok xs ρ1 =>
    match xs with
    | [] => simp [wS]
    | [_] => simp [wS]
    | [o1, o2] => simp [wS]
    | _ :: _ :: _ :: _ => simp [wS]
  | _ => rfl
@[simp] theorem wS_par3 {i j l : Nat} : wS (sPar3 i j l ml ρ) nx rt bk ct = wM (ml ρ) fun xs ρ1 => match xs with
    | [o1, o2, o3] => nx (((ρ1.set i o1).set j o2).set l o3)
    | _ => False := by
  unfold sPar3
  cases e : ml ρ with
  | ok xs ρ1 =>
    match xs with
    | [] => simp [wS]
    | [_] => simp [wS]
    | [_, _] => simp [wS]
    | [o1, o2, o3] => simp [wS]
    | _ :: _ :: _ :: _ :: _ => simp [wS]
  | _ => rfl
@[simp] theorem wS_if : wS (sIf c a b ρ) nx rt bk ct = wM (c ρ) fun t ρ1 => (t = true → wS (a ρ1) nx rt bk ct) ∧ (t = false → wS (b ρ1) nx rt bk ct) := by
  unfold sIf
  cases e : c ρ with
  | ok t ρ1 => cases t <;> simp
  | _ => rfl
@[simp] theorem wS_for {mi : M (List PD)} {f : QG} : wS (sFor mi f a ρ) nx rt bk ct = wM (mi ρ) fun ds ρ1 => wS (forGo f a ds ρ1) nx rt bk ct := by
  unfold sFor
  cases e : mi ρ <;> rfl
@[simp] theorem wF_defN {more : Nat} {io : List Bool} {os : List O} : wF (defN more io a os) Q = wS (a (os ++ deadN more)) (fun ρ => Q (.fz .none) (outsE io ρ)) (fun o ρ => Q o (outsE io ρ)) (fun _ => False) (fun _ => False) := by
  unfold defN
  cases e : a (os ++ deadN more) <;> rfl
theorem wS_mono {r : RS} {nx' bk' ct' : List O → Prop} {rt' : O → List O → Prop} (h : wS r nx rt bk ct) (h1 : ∀ ρ, nx ρ → nx' ρ) (h2 : ∀ o ρ, rt o ρ → rt' o ρ) (h3 : ∀ ρ, bk ρ → bk' ρ) (h4 : ∀ ρ, ct ρ → ct' ρ) : wS r nx' rt' bk' ct' := by
  cases r with
  | next ρ => exact h1 _ h
  | ret o ρ => exact h2 _ _ h
  | brk ρ => exact h3 _ h
  | cont ρ => exact h4 _ h
  | _ => exact h
/-- for, by an invariant -/
theorem for_inv {f : QG} (I : Nat → List O → Prop) : ∀ (xs : List PD) (k : Nat) (ρ : List O), I k ρ → (∀ i x ρ, xs[i]? = some x → I (k + i) ρ → ∃ ρ1, f x ρ = some ρ1 ∧ wS (a ρ1) (I (k + i + 1)) rt nx (I (k + i + 1))) → (∀ ρ, I (k + xs.length) ρ → nx ρ) → wS (forGo f a xs ρ) nx rt bk ct
  | [], k, ρ, h0, _, he => he ρ h0
  | x :: xs, k, ρ, h0, hs, he => by
    obtain ⟨ρ1, e1, h1⟩ := hs 0 x ρ rfl h0
    unfold forGo
    rw [e1]
    simp only
    have go : ∀ ρ2, I (k + 1) ρ2 → wS (forGo f a xs ρ2) nx rt bk ct := fun ρ2 h2 => for_inv I xs (k + 1) ρ2 h2 (fun i y ρ3 ey h3 => by
      have := hs (i + 1) y ρ3 (by simpa using ey) (by rw [show k + (i + 1) = k + 1 + i by omega]; exact h3)
      rw [show k + (i + 1) = k + 1 + i by omega] at this
      exact this) fun ρ3 h3 => he ρ3 (by rw [show k + (x :: xs).length = k + 1 + xs.length by simp; omega]; exact h3)
    cases e2 : a ρ1 with
    | next ρ2 => rw [e2] at h1; exact go ρ2 h1
    | cont ρ2 => rw [e2] at h1; exact go ρ2 h1
    | brk ρ2 => rw [e2] at h1; exact h1
    | ret o ρ2 => rw [e2] at h1; exact h1
    | exc x ρ2 => rw [e2] at h1; exact h1.elim
    | bad => rw [e2] at h1; exact h1.elim
theorem wS_forI {f : QG} {xs : List PD} (I : Nat → List O → Prop) (h0 : I 0 ρ) (hs : ∀ i x ρ, xs[i]? = some x → I i ρ → ∃ ρ1, f x ρ = some ρ1 ∧ wS (a ρ1) (I (i + 1)) rt nx (I (i + 1))) (he : ∀ ρ, I xs.length ρ → nx ρ) : wS (forGo f a xs ρ) nx rt bk ct :=
  for_inv I xs 0 ρ h0 (fun i x ρ ex h => by rw [Nat.zero_add] at h ⊢; exact hs i x ρ ex h) fun ρ h => he ρ (by rw [Nat.zero_add] at h; exact h)
theorem wS_whileI (I : Nat → List O → Prop) (n : Nat) (h0 : I n ρ) (hs : ∀ n ρ, I n ρ → wM (c ρ) fun t ρ1 => (t = false → nx ρ1) ∧ (t = true → wS (a ρ1) (fun ρ2 => ∃ m, m < n ∧ I m ρ2) rt nx (fun ρ2 => ∃ m, m < n ∧ I m ρ2))) : wS (sWhile c a ρ) nx rt bk ct := by
  induction n using Nat.strongRecOn generalizing ρ with
  | ind n ih =>
    have h := hs n ρ h0
    rw [sWhile_eq]
    unfold whileStep
    cases e : c ρ with
    | bad => rw [e] at h; exact h.elim
    | exc x ρ1 => rw [e] at h; exact h.elim
    | ok t ρ1 =>
      rw [e] at h
      cases t with
      | false => exact h.1 rfl
      | true =>
        have h := h.2 rfl
        simp only
        cases e2 : a ρ1 with
        | next ρ2 => rw [e2] at h; obtain ⟨m, l, q⟩ := h; exact ih m l q
        | cont ρ2 => rw [e2] at h; obtain ⟨m, l, q⟩ := h; exact ih m l q
        | brk ρ2 => rw [e2] at h; exact h
        | ret o ρ2 => rw [e2] at h; exact h
        | exc x ρ2 => rw [e2] at h; exact h.elim
        | bad => rw [e2] at h; exact h.elim
theorem qof_of {f : List O → FR} {ds : List PD} {d : PD} (h : wF (f (ds.map .fz)) fun o _ => toPD o = some d) : qOf f ds = some d := by
  unfold qOf
  cases e : f (ds.map .fz) with
  | ret o outs => rw [e] at h; exact h
  | _ => rw [e] at h; exact h.elim
theorem law_of {f : List O → FR} {os : List O} (h : wF (f os) fun o _ => o = .fz (.bool true)) : ∃ outs, f os = .ret (.fz (.bool true)) outs := by
  cases e : f os with
  | ret o outs =>
    rw [e] at h
    have h' : o = _ := h
    rw [h']
    exact ⟨outs, rfl⟩
  | _ => rw [e] at h; exact h.elim
end
end FM
namespace FM
open PySem PySem.Spec L2 PyProof.Rows
/-! ### words at written-out slots -/
section
variable {ρ : List O} {o : O} {i j : Int}
@[simp] theorem qVar_fz {d : PD} : qVar 0 (.fz d :: ρ) = some (.fz d) := rfl
@[simp] theorem qVar_lst {ds : List PD} : qVar 0 (.lst ds :: ρ) = some (.lst ds) := rfl
@[simp] theorem qVar_dic {ds : List (Key × PD)} : qVar 0 (.dic ds :: ρ) = some (.dic ds) := rfl
@[simp] theorem qVar_dit {ds : List (List Key × PD)} : qVar 0 (.dit ds :: ρ) = some (.dit ds) := rfl
@[simp] theorem qVar_nst {ds : List O} : qVar 0 (.nst ds :: ρ) = some (.nst ds) := rfl
@[simp] theorem qVar_ntp {ds : List O} : qVar 0 (.ntp ds :: ρ) = some (.ntp ds) := rfl
@[simp] theorem qVar_ins {c : Nat} {fs : List (Str × O)} : qVar 0 (.ins c fs :: ρ) = some (.ins c fs) := rfl
@[simp] theorem qVar_dead : qVar 0 (.dead :: ρ) = none := rfl
@[simp] theorem qVar_succ {n : Nat} : qVar (n + 1) (o :: ρ) = qVar n ρ := by
  unfold qVar
  rw [List.getElem?_cons_succ]
@[simp] theorem qC_eq {d : PD} : qC d ρ = some (.fz d) := rfl
@[simp] theorem fzs_nil : fzs [] = some [] := rfl
@[simp] theorem fzs_cons {d : PD} : fzs (.fz d :: ρ) = (fzs ρ).map (d :: ·) := rfl
@[simp] theorem fzs_lst {d : List PD} : fzs (.lst d :: ρ) = none := rfl
@[simp] theorem fzs_dead : fzs (.dead :: ρ) = none := rfl
@[simp] theorem toPD_fz {d : PD} : toPD (.fz d) = some d := rfl
@[simp] theorem toPD_lst {d : List PD} : toPD (.lst d) = some (.list d) := rfl
@[simp] theorem deadN_zero : deadN 0 = [] := rfl
@[simp] theorem deadN_succ {n : Nat} : deadN (n + 1) = .dead :: deadN n := rfl
@[simp] theorem outsE_nil : outsE [] ρ = [] := rfl
@[simp] theorem outsE_t {io : List Bool} : outsE (true :: io) (o :: ρ) = o :: outsE io ρ := rfl
@[simp] theorem outsE_f {io : List Bool} : outsE (false :: io) (o :: ρ) = .dead :: outsE io ρ := rfl
@[simp] theorem fillA_nil : fillA [] [] ρ = some ([], ρ) := rfl
@[simp] theorem fillA_n {as : List (Option Nat)} {xs : List O} : fillA (none :: as) (o :: xs) ρ = (fillA as xs ρ).map fun z => (o :: z.1, z.2) := by
  show (match fillA as xs ρ with | none => none | some z => some (o :: z.1, z.2)) = _
  cases fillA as xs ρ <;> rfl
@[simp] theorem fillA_s {n : Nat} {as : List (Option Nat)} {xs : List O} : fillA (some n :: as) (o :: xs) ρ = (qVar n ρ).bind fun y => (fillA as xs (ρ.set n .dead)).map fun z => (y :: z.1, z.2) := by
  show (match qVar n ρ with | none => none | some y => match fillA as xs (ρ.set n .dead) with | none => none | some z => some (y :: z.1, z.2)) = _
  cases qVar n ρ with
  | none => rfl
  | some y => simp only [Option.bind_some]; cases fillA as xs (ρ.set n .dead) <;> rfl
@[simp] theorem backA_nil {xs : List O} : backA [] xs ρ = ρ := by cases xs <;> rfl
@[simp] theorem backA_n {as : List (Option Nat)} {xs : List O} : backA (none :: as) (o :: xs) ρ = backA as xs ρ := rfl
@[simp] theorem backA_s {n : Nat} {as : List (Option Nat)} {xs : List O} : backA (some n :: as) (o :: xs) ρ = backA as xs (ρ.set n o) := rfl
@[simp] theorem fName_eq {n : Nat} {d : PD} : fName n d ρ = some (ρ.set n (.fz d)) := rfl
/-! operators -/
@[simp] theorem oAdd_i : oAdd (.fz (.int i)) (.fz (.int j)) = some (.fz (.int (i + j))) := rfl
@[simp] theorem oSub_i : oSub (.fz (.int i)) (.fz (.int j)) = some (.fz (.int (i - j))) := rfl
@[simp] theorem oLt_i : oLt (.fz (.int i)) (.fz (.int j)) = some (.fz (.bool (decide (i < j)))) := rfl
@[simp] theorem oLe_i : oLe (.fz (.int i)) (.fz (.int j)) = some (.fz (.bool (decide (i ≤ j)))) := rfl
@[simp] theorem oGt_i : oGt (.fz (.int i)) (.fz (.int j)) = some (.fz (.bool (decide (j < i)))) := rfl
@[simp] theorem oGe_i : oGe (.fz (.int i)) (.fz (.int j)) = some (.fz (.bool (decide (j ≤ i)))) := rfl
@[simp] theorem oNeg_i : oNeg (.fz (.int i)) = some (.fz (.int (-i))) := rfl
theorem oMul_r (h1 : -(2 ^ 64) < j) (h2 : j < 2 ^ 64) : oMul (.fz (.int i)) (.fz (.int j)) = some (.fz (.int (i * j))) := by
  have : cMul i j = true := by
    have hs : small64 j = true := @decide_eq_true _ (Classical.propDecidable _) ⟨h1, h2⟩
    unfold cMul
    rw [hs, Bool.or_true, Bool.true_or]
  simp [oMul, this]
theorem oMul_l (h1 : -(2 ^ 64) < i) (h2 : i < 2 ^ 64) : oMul (.fz (.int i)) (.fz (.int j)) = some (.fz (.int (i * j))) := by
  have : cMul i j = true := by
    have hs : small64 i = true := @decide_eq_true _ (Classical.propDecidable _) ⟨h1, h2⟩
    unfold cMul
    rw [hs, Bool.true_or, Bool.true_or]
  simp [oMul, this]
theorem oDiv_i (h1 : 0 < j) (h2 : j < 2 ^ 200) : oDiv (.fz (.int i)) (.fz (.int j)) = some (.fz (.int (i / j))) := by
  have : cDiv i j = true := by
    unfold cDiv
    have h3 : j.natAbs < 2 ^ 8000 := Nat.lt_of_lt_of_le (by omega : j.natAbs < 2 ^ 200) (Nat.pow_le_pow_right (by decide) (by decide))
    simp [h1, h3]
  simp [oDiv, oI, this]
theorem oMod_i (h1 : 0 < j) : oMod (.fz (.int i)) (.fz (.int j)) = some (.fz (.int (i % j))) := by simp [oMod, oI, h1]
theorem oPow_i (h1 : -(2 ^ 64) < i) (h2 : i < 2 ^ 64) (h3 : 0 ≤ j) (h4 : j ≤ 1000000) : oPow (.fz (.int i)) (.fz (.int j)) = some (.fz (.int (i ^ j.toNat))) := by
  have : cPow i j = true := by
    unfold cPow
    have h5 : i.natAbs < 2 ^ 64 := by omega
    simp [h3, h4, h5]
  simp [oPow, oI, this]
theorem beq_dec (i j : Int) : (i == j) = decide (i = j) := by rw [Bool.eq_iff_iff, beq_iff_eq, decide_eq_true_eq]
@[simp] theorem oEq_i : oEq (.fz (.int i)) (.fz (.int j)) = some (.fz (.bool (decide (i = j)))) := by
  simp [oEq, oEqD, strs2, SeqAt.shaped, PyData.canLay0, PyData.depth, PyData.eqv, beq_dec]
@[simp] theorem oNe_i : oNe (.fz (.int i)) (.fz (.int j)) = some (.fz (.bool (!decide (i = j)))) := by
  simp [oNe, oNeD, strs2, SeqAt.shaped, PyData.canLay0, PyData.depth, PyData.eqv, beq_dec]
@[simp] theorem oAbs_i : oAbs [.fz (.int i)] = some (.fz (.int (if i < 0 then -i else i))) := rfl
@[simp] theorem oMax2_i : oMax2 [.fz (.int i), .fz (.int j)] = some (.fz (.int (if j > i then j else i))) := rfl
@[simp] theorem oMin2_i : oMin2 [.fz (.int i), .fz (.int j)] = some (.fz (.int (if j < i then j else i))) := rfl
@[simp] theorem oInt_b {b : Bool} : oInt [.fz (.bool b)] = some (.fz (.int (if b then 1 else 0))) := rfl
@[simp] theorem oInt_i : oInt [.fz (.int i)] = some (.fz (.int i)) := rfl
@[simp] theorem oLen_l {ds : List PD} : oLen [.fz (.list ds)] = some (.fz (.int ds.length)) := rfl
@[simp] theorem oLen_lst {ds : List PD} : oLen [.lst ds] = some (.fz (.int ds.length)) := rfl
@[simp] theorem oLen_t {ds : List PD} : oLen [.fz (.tuple ds)] = some (.fz (.int ds.length)) := rfl
@[simp] theorem oList_l {ds : List PD} : oList [.fz (.list ds)] = some (.lst ds) := rfl
@[simp] theorem oList_lst {ds : List PD} : oList [.lst ds] = some (.lst ds) := rfl
@[simp] theorem oList_t {ds : List PD} : oList [.fz (.tuple ds)] = some (.lst ds) := rfl
@[simp] theorem oTuple_l {ds : List PD} : oTuple [.fz (.list ds)] = some (.fz (.tuple ds)) := rfl
@[simp] theorem oTuple_lst {ds : List PD} : oTuple [.lst ds] = some (.fz (.tuple ds)) := rfl
@[simp] theorem oTuple_t {ds : List PD} : oTuple [.fz (.tuple ds)] = some (.fz (.tuple ds)) := rfl
@[simp] theorem oIx_l {ds : List PD} : oIx (.fz (.list ds)) (.fz (.int i)) = (atI ds i).map .fz := rfl
@[simp] theorem oIx_lst {ds : List PD} : oIx (.lst ds) (.fz (.int i)) = (atI ds i).map .fz := rfl
@[simp] theorem oIx_t {ds : List PD} : oIx (.fz (.tuple ds)) (.fz (.int i)) = (atI ds i).map .fz := rfl
theorem atI_nn {α : Type} {xs : List α} {i : Int} (h : 0 ≤ i) : atI xs i = xs[i.toNat]? := by
  unfold atI ixN
  rw [if_pos h]
  by_cases h2 : i < xs.length
  · rw [if_pos h2]; rfl
  · rw [if_neg h2, List.getElem?_eq_none (by omega)]; rfl
@[simp] theorem atI_0 {α : Type} {xs : List α} : atI xs 0 = xs[0]? := atI_nn (Int.le_refl 0)
@[simp] theorem atI_1 {α : Type} {xs : List α} : atI xs 1 = xs[1]? := atI_nn (by decide)
@[simp] theorem atI_2 {α : Type} {xs : List α} : atI xs 2 = xs[2]? := atI_nn (by decide)
@[simp] theorem atI_3 {α : Type} {xs : List α} : atI xs 3 = xs[3]? := atI_nn (by decide)
@[simp] theorem atI_4 {α : Type} {xs : List α} : atI xs 4 = xs[4]? := atI_nn (by decide)
@[simp] theorem atI_5 {α : Type} {xs : List α} : atI xs 5 = xs[5]? := atI_nn (by decide)
@[simp] theorem atI_6 {α : Type} {xs : List α} : atI xs 6 = xs[6]? := atI_nn (by decide)
@[simp] theorem atI_7 {α : Type} {xs : List α} : atI xs 7 = xs[7]? := atI_nn (by decide)
@[simp] theorem atI_8 {α : Type} {xs : List α} : atI xs 8 = xs[8]? := atI_nn (by decide)
@[simp] theorem atI_9 {α : Type} {xs : List α} : atI xs 9 = xs[9]? := atI_nn (by decide)
@[simp] theorem atI_10 {α : Type} {xs : List α} : atI xs 10 = xs[10]? := atI_nn (by decide)
@[simp] theorem atI_11 {α : Type} {xs : List α} : atI xs 11 = xs[11]? := atI_nn (by decide)
@[simp] theorem atI_12 {α : Type} {xs : List α} : atI xs 12 = xs[12]? := atI_nn (by decide)
theorem atI_last {α : Type} {xs : List α} (h : xs ≠ []) : atI xs (-1) = xs[xs.length - 1]? := by
  unfold atI ixN
  have : 1 ≤ xs.length := List.length_pos_iff.mpr h
  rw [if_neg (by decide), if_pos (by omega)]
  have e : (-1 + (xs.length : Int)).toNat = xs.length - 1 := by omega
  show xs[(-1 + (xs.length : Int)).toNat]? = _
  rw [e]
@[simp] theorem atI_snoc {α : Type} {xs : List α} {x : α} : atI (xs ++ [x]) (-1) = some x := by
  rw [atI_last (by simp)]
  simp
@[simp] theorem fAppend_eq {ds : List PD} {x : PD} (h : ds.length < sizeLine) : fAppend ds [x] = some (.none, ds ++ [x]) := by simp [fAppend, h]
@[simp] theorem fSetI_i {ds : List PD} {d : PD} : fSetI ds (.int i) d = (ixN ds.length i).map fun n => ds.set n d := rfl
end
/-! words unfold -/
section
variable {ρ : List O} {a b : QE} {c d : List O → Option Bool} {r : List O → Option (List O)}
@[simp] theorem qOp_eq {f : O → O → Option O} : qOp f a b ρ = match a ρ with
    | none => none
    | some x => match b ρ with
      | none => none
      | some y => f x y := rfl
@[simp] theorem qUn_eq {f : O → Option O} : qUn f a ρ = match a ρ with
    | none => none
    | some x => f x := rfl
@[simp] theorem qNil_eq : qNil ρ = some [] := rfl
@[simp] theorem qCons_eq : qCons a r ρ = match a ρ with
    | none => none
    | some x => match r ρ with
      | none => none
      | some xs => some (x :: xs) := rfl
@[simp] theorem qCb_eq {f : List O → Option O} : qCb f r ρ = match r ρ with
    | none => none
    | some xs => f xs := rfl
@[simp] theorem qB_eq : qB a ρ = match a ρ with
    | some (.fz (.bool b)) => some b
    | _ => none := rfl
@[simp] theorem qAnd_eq : qAnd c d ρ = match c ρ with
    | some true => d ρ
    | r => r := rfl
@[simp] theorem qOr_eq : qOr c d ρ = match c ρ with
    | some false => d ρ
    | r => r := rfl
@[simp] theorem qIf_eq : qIf c a b ρ = match c ρ with
    | some true => a ρ
    | some false => b ρ
    | none => none := rfl
@[simp] theorem qFz_eq : qFz a ρ = match a ρ with
    | some o => (toPD o).map .fz
    | none => none := rfl
@[simp] theorem qLst_eq : qLst r ρ = match r ρ with
    | none => none
    | some os => match fzs os with
      | some ds => if ds.length ≤ sizeLine then some (.lst ds) else none
      | none => none := rfl
@[simp] theorem qTup_eq : qTup r ρ = match r ρ with
    | none => none
    | some os => match fzs os with
      | some ds => if ds.length ≤ sizeLine then some (.fz (.tuple ds)) else none
      | none => none := rfl
@[simp] theorem qIfA_eq : qIfA a ρ = match a ρ with
    | none => none
    | some x => fzA x := rfl
@[simp] theorem fzA_l {ds : List PD} : fzA (.fz (.list ds)) = some ds := rfl
@[simp] theorem fzA_t {ds : List PD} : fzA (.fz (.tuple ds)) = some ds := rfl
@[simp] theorem qRng1_eq : qRng1 r ρ = match r ρ with
    | some [.fz (.int j)] => if big62 j then some (rngD 0 j.toNat) else none
    | _ => none := rfl
end
/-! data that can be shown -/
theorem ofs_len (s : String) : (Str.ofString s).length = s.length := PySem.ofString_length s
structure Fine (h n : Nat) (d : PD) : Prop where
  lay : d.canLay0 = true
  dep : d.depth ≤ h
  sh : d.showable = true
  len : d.shown.length ≤ n
structure FineA (h n : Nat) (ds : List PD) : Prop where
  lay : PyData.canLayAll0 ds = true
  dep : PyData.depthAll ds ≤ h
  sh : PyData.showableAll ds = true
  len : piled (PyData.shownAll ds) ≤ n
theorem Fine.mono {h n h' n' : Nat} {d : PD} (f : Fine h n d) (a : h ≤ h') (b : n ≤ n') : Fine h' n' d := ⟨f.lay, Nat.le_trans f.dep a, f.sh, Nat.le_trans f.len b⟩
theorem Fine.int {i : Int} (h : i.natAbs < 2 ^ 64) : Fine 0 21 (.int i) := by
  refine ⟨by simp [PyData.canLay0], by simp [PyData.depth], ?_, ?_⟩
  · have : i.natAbs.log2 < 1920 := PySem.Spec.log2_small (Nat.lt_of_lt_of_le h (Nat.pow_le_pow_right (by decide) (by decide)))
    simp [PyData.showable, this]
  · rw [PyData.shown_int]
    exact Nat.le_trans (Nat.le_of_eq (ofs_len _)) (int_text_length_le10 (k := 20) (by decide) (Nat.lt_of_lt_of_le h (by decide)))
theorem FineA.nil {h : Nat} : FineA h 0 [] := ⟨by simp [PyData.canLayAll0], by simp [PyData.depthAll], by simp [PyData.showableAll], by simp [PyData.shownAll, piled]⟩
theorem FineA.cons {h n m : Nat} {d : PD} {ds : List PD} (a : Fine h n d) (b : FineA h m ds) : FineA h (n + 2 + m) (d :: ds) := by
  refine ⟨by simp [PyData.canLayAll0, a.lay, b.lay], ?_, by simp [PyData.showableAll, a.sh, b.sh], ?_⟩
  · have h1 := a.dep
    have h2 := b.dep
    simp [PyData.depthAll]
    omega
  · have h1 := a.len
    have h2 := b.len
    rw [PyData.shownAll_cons, piled_cons]
    omega
theorem FineA.all {h n : Nat} : ∀ {ds : List PD}, (∀ d ∈ ds, Fine h n d) → FineA h (ds.length * (n + 2)) ds
  | [], _ => by rw [List.length_nil, Nat.zero_mul]; exact .nil
  | d :: ds, f => by
    have := FineA.cons (f d List.mem_cons_self) (FineA.all fun x m => f x (List.mem_cons_of_mem _ m))
    rw [List.length_cons, Nat.succ_mul, Nat.add_comm (ds.length * (n + 2))]
    exact this
theorem join_le (ts : List Str) : (Str.join ", " ts).length ≤ piled ts := by
  by_cases h : ts = []
  · subst h
    decide
  · have := join_length_add ts h
    omega
theorem FineA.list {h n : Nat} {ds : List PD} (a : FineA h n ds) : Fine (h + 1) (n + 2) (.list ds) := by
  refine ⟨by simp [PyData.canLay0, a.lay], by have := a.dep; simp [PyData.depth]; omega, by simp [PyData.showable, a.sh], ?_⟩
  have h1 := a.len
  have h2 := join_le (PyData.shownAll ds)
  rw [PyData.shown_list, strLen_append, strLen_append]
  have e1 : ("[" : Str).length = 1 := by decide
  have e2 : ("]" : Str).length = 1 := by decide
  omega
theorem FineA.tuple {h n : Nat} {ds : List PD} (a : FineA h n ds) : Fine (h + 1) (n + 3) (.tuple ds) := by
  refine ⟨by simp [PyData.canLay0, a.lay], by have := a.dep; simp [PyData.depth]; omega, by simp [PyData.showable, a.sh], ?_⟩
  have h1 := a.len
  have h2 := join_le (PyData.shownAll ds)
  rw [PyData.shown_tuple, strLen_append, strLen_append]
  have e1 : ("(" : Str).length = 1 := by decide
  have e2 : ((if ds.length == 1 then ",)" else ")" : String) : Str).length ≤ 2 := by
    split <;> decide
  omega
theorem Fine.shaped {h n : Nat} {d : PD} (f : Fine h n d) (a : h ≤ 64) : SeqAt.shaped d = true := by
  unfold SeqAt.shaped
  rw [f.lay, decide_eq_true (Nat.le_trans f.dep a)]
  rfl
end FM
namespace FM
open PySem PySem.Spec L2 PyProof.Rows
/-! ### comprehensions whose items may have effects -/
theorem Envs.unset {k : Kc} {F H : Hp} : ∀ {σ : L2.St} {ρ : List O} {S : List Addr} (j : Nat), Envs k F H (σ.set j none) ρ S → Envs k F H σ ρ S
  | [], _, _, _, h => by simpa using h
  | x :: σ, _, _, 0, h => by
    cases h with
    | dead r => exact .dead r
  | x :: σ, _, _, j + 1, h => by
    have h' : Envs k F H (x :: σ.set j none) _ _ := h
    cases h' with
    | dead r => exact .dead (Envs.unset j r)
    | cons w r => exact .cons w (Envs.unset j r)
theorem Envs.unwipe {k : Kc} {F H : Hp} {σ : L2.St} : ∀ {vs : List Nat} {ρ : List O} {S : List Addr}, Envs k F H (L2.wipe σ vs) ρ S → Envs k F H σ ρ S
  | [], _, _, h => h
  | v :: vs, _, _, h => Envs.unwipe (vs := vs) (Envs.unset v h)
theorem Envs.wipeS {k : Kc} {F H : Hp} {σ : L2.St} {ρ : List O} {S : List Addr} (h : Envs k F H σ ρ S) : ∀ vs : List Nat, ∃ S', S'.Sublist S ∧ Envs k F H (L2.wipe σ vs) (wipeO ρ vs) S'
  | [] => ⟨S, .refl _, h⟩
  | v :: vs => by
    obtain ⟨S1, m1, h1⟩ := Envs.wipeS h vs
    obtain ⟨S2, m2, h2⟩ := Envs.setD (v := none) v h1
    exact ⟨S2, m2.trans m1, h2⟩
def lcGoM (f : QG) (c : M Bool) (e : M O) (vs : List Nat) : List PD → List PD → List O → R (List PD)
  | [], acc, ρ => .ok acc ρ
  | x :: xs, acc, ρ => match f x ρ with
    | none => .bad
    | some ρ1 => match c ρ1 with
      | .ok false ρ2 => lcGoM f c e vs xs acc (wipeO ρ2 vs)
      | .ok true ρ2 => match e ρ2 with
        | .ok (.fz d) ρ3 => if acc.length < sizeLine then lcGoM f c e vs xs (acc ++ [d]) (wipeO ρ3 vs) else .bad
        | _ => .bad
      | _ => .bad
def mLc (mi : M (List PD)) (f : QG) (c : M Bool) (e : M O) (vs : List Nat) : M O := fun ρ => match mi ρ with
  | .ok ds ρ1 => match lcGoM f c e vs ds [] (wipeO ρ1 vs) with
    | .ok acc ρ2 => .ok (.lst acc) ρ2
    | _ => .bad
  | .exc x ρ1 => .exc x ρ1
  | .bad => .bad
def bYes : M Bool := fun ρ => .ok true ρ
section
variable {k : Kc} {E : XK}
theorem ttm_yes : TTm k E tYes bYes := fun P e σ ρ vs os H Q s g => g H s
/-- an own list on top grows -/
theorem St.grow {P : List (Nat × V)} {e : Ent} {σ : L2.St} {ρ : List O} {vs : List V} {os : List O} {H : Hp} {y : V} {d : PD} {D : Addr} {acc : List PD} (s : St k P e σ ρ (y :: .ref D :: vs) (.fz d :: .lst acc :: os) H) :
    ∃ ws, H D = some (.lst ws) ∧ ws.length = acc.length ∧ St k P e σ ρ (.ref D :: vs) (.lst (acc ++ [d]) :: os) (upd H D (.lst (ws ++ [y]))) := by
  obtain ⟨F, S1, S2, s⟩ := s
  obtain ⟨rd, s⟩ := s.top
  obtain ⟨env, tmp, fr, pin⟩ := s
  cases tmp with
  | @cons _ _ _ _ T U w r =>
    cases w with
    | @lst a ws _ h rr =>
      have fr' : Fr e F H (D :: (S1 ++ U)) := Sbp.fr fr (.of_count fun b => by
        simp only [List.count_append, List.count_cons, List.count_nil]
        omega)
      have hD : H D = some (.lst ws) := by
        rcases h with h | ⟨ob, h⟩
        · exact h
        · exact (fr'.nofz D List.mem_cons_self ob _ h).elim
      have nd := List.nodup_cons.mp fr'.nd
      have at_ : ∀ Z : List Addr, (∀ b ∈ Z, b ∈ S1 ++ U) → At Z H (upd H D (.lst (ws ++ [y]))) := fun Z m b mb u z => by
        rw [upd_ne (fun q => nd.1 (by rw [← q]; exact m b mb))]
        exact z
      have fw := fr'.write (a := D) (o := .lst (ws ++ [y])) List.mem_cons_self (fun _ _ z => by cases z)
      refine ⟨ws, hD, rr.length, F, S1, [D] ++ U, env.mono (Same.refl F) (at_ S1 fun b m => List.mem_append_left _ m), .cons (.lst (.inl upd_same) (rr.append (.cons rd .nil))) (r.mono (Same.refl F) (at_ U fun b m => List.mem_append_right _ m)), Sbp.fr fw (.of_count fun b => ?_), pin⟩
      simp only [List.count_append, List.count_cons, List.count_nil]
      omega
theorem tem_lc {wi : TI} {g : TG} {tt : TT} {te : TE} {vs : List Nat} {mi : M (List PD)} {f : QG} {c : M Bool} {me : M O} {J : List Nat} (hi : TIm k E wi mi) (hg : TGq k g f J) (hJ : J.all fun j => vs.contains j) (ht : TTm k E0 tt c) (he : TEm k E0 te me) :
    TEm k E (tLc wi g tt te vs) (mLc mi f c me vs) := by
  have hJ' : ∀ j ∈ J, j ∈ vs := fun j m => by simpa using List.all_eq_true.mp hJ j m
  intro P e σ ρ ws os H Q s gg
  refine hi P e σ ρ ws os H _ s ?_
  unfold mLc at gg
  cases e1 : mi ρ with
  | exc x ρ1 => rw [e1] at gg; exact gg
  | bad => rw [e1] at gg; exact gg
  | ok ds ρ1 =>
    rw [e1] at gg
    simp only at gg
    intro It F H1 S1 S2 s1 W D hD
    let e' : Ent := ⟨F, H1, S1 ++ S2⟩
    have f0 : Fr e F H1 (S1 ++ S2) := s1.fr
    cases e2 : lcGoM f c me vs ds [] (wipeO ρ1 vs) with
    | exc x ρ2 => rw [e2] at gg; exact gg.elim
    | bad => rw [e2] at gg; exact gg.elim
    | ok ys ρ2 =>
      rw [e2] at gg
      simp only at gg
      have rewipe : ∀ {σ2 : L2.St} {ρ2 : List O} {zs : List V} {xs : List O} {H2 : Hp}, St k [] e' σ2 ρ2 zs xs H2 → L2.wipe σ2 vs = L2.wipe σ vs → St k [] e' (L2.wipe σ vs) (wipeO ρ2 vs) zs xs H2 := fun {σ2 ρ2 zs xs H2} s ew => by
        obtain ⟨F2, T1, T2, env, tmp, fr, _⟩ := s
        obtain ⟨T', m, q⟩ := env.wipeS vs
        rw [ew] at q
        exact ⟨F2, T', T2, q, tmp, fr.sub (List.Sublist.append m (.refl _)), fun p m => by cases m⟩
      have sD : St k [] e' (L2.wipe σ vs) (wipeO ρ1 vs) (.ref D :: ws) (.lst [] :: os) (upd H1 D (.lst [])) := by
        refine rewipe (σ2 := σ) ?_ rfl
        have s1' : StW k [] e' σ ρ1 ws os F H1 S1 S2 := ⟨s1.env, s1.tmp, s1.fr.refl, fun p m => by cases m⟩
        exact s1'.pushN hD (fun _ _ z => by cases z) (.lst (.inl upd_same) .nil)
      refine ⟨fun i m H => m = ds.length - i ∧ i ≤ ds.length ∧ ∃ acc ρi, St k [] e' (L2.wipe σ vs) ρi (.ref D :: ws) (.lst acc :: os) H ∧ lcGoM f c me vs (ds.drop i) acc ρi = .ok ys ρ2, ⟨_, rfl, Nat.zero_le _, [], _, sD, by simpa using e2⟩, ?_⟩
      rintro i m H2 ⟨rfl, hi2, acc, ρi, s2, g2⟩
      by_cases hlt : i < ds.length
      · obtain ⟨F2, T1, T2, s2⟩ := s2
        refine .inr ⟨W.goes i F2 H2 hlt s2.fr.f0 s2.fr.fle, fun H' => i + 1 ≤ ds.length ∧ ∃ acc ρi, St k [] e' (L2.wipe σ vs) ρi (.ref D :: ws) (.lst acc :: os) H' ∧ lcGoM f c me vs (ds.drop (i + 1)) acc ρi = .ok ys ρ2, fun H' z => ⟨_, by omega, rfl, z.1, z.2⟩, fun x H3 y => ?_⟩
        obtain ⟨F3, x3, rx⟩ := W.yields i F2 H2 x H3 hlt s2.fr.f0 s2.fr.fle y
        rw [List.drop_eq_getElem_cons hlt] at g2
        unfold lcGoM at g2
        cases e6 : f ds[i] ρi with
        | none => rw [e6] at g2; cases g2
        | some ρ4 =>
          simp only [e6] at g2
          have s3 : StW k [] e' (L2.wipe σ vs) ρi (.ref D :: ws) (.lst acc :: os) F3 H3 T1 T2 := s2.xt x3
          refine hg F3 H3 _ ρi ρ4 T1 x ds[i] _ s3.qs rx e6 fun σ4 S' q' m' ag => ?_
          have ew : L2.wipe σ4 vs = L2.wipe σ vs := by rw [ag.wipe hJ']; exact wipe_wipe vs vs fun _ z => z
          have s4 : St k [] e' σ4 ρ4 (.ref D :: ws) (.lst acc :: os) H3 := ⟨F3, S', T2, q'.env, s3.tmp, s3.fr.sub (List.Sublist.append m' (.refl _)), fun p m => by cases m⟩
          refine ⟨ew, ht [] e' σ4 ρ4 _ _ H3 _ s4 ?_⟩
          cases e7 : c ρ4 with
          | exc x5 ρ5 => simp only [e7] at g2; cases g2
          | bad => simp only [e7] at g2; cases g2
          | ok b ρ5 =>
            simp only [e7] at g2
            intro H5 s5
            cases b with
            | false =>
              rw [if_neg (by decide)]
              exact ⟨hlt, acc, _, rewipe s5 ew, g2⟩
            | true =>
              rw [if_pos rfl]
              simp only at g2
              refine he [] e' σ4 ρ5 _ _ H5 _ s5 ?_
              cases e8 : me ρ5 with
              | exc x6 ρ6 => simp only [e8] at g2; cases g2
              | bad => simp only [e8] at g2; cases g2
              | ok o6 ρ6 =>
                simp only [e8] at g2
                intro v H6 s6
                cases o6 with
                | fz d =>
                  simp only at g2
                  split at g2
                  · rename_i hz
                    obtain ⟨zs, z1, z2, z3⟩ := s6.grow
                    exact ⟨zs, z1, by omega, hlt, acc ++ [d], _, rewipe z3 ew, g2⟩
                  · cases g2
                | _ => cases g2
      · have ei : i = ds.length := by omega
        subst ei
        obtain ⟨F2, T1, T2, s2⟩ := s2
        refine .inl ⟨W.stops F2 H2 s2.fr.f0 s2.fr.fle, ?_⟩
        rw [List.drop_length] at g2
        unfold lcGoM at g2
        cases g2
        exact gg (.ref D) H2 ⟨F2, T1, T2, s2.env.unwipe, s2.tmp, f0.trans s2.fr, s1.pin⟩
end
end FM
namespace FM
open PySem PySem.Spec L2 PyProof.Rows
/-! ### all, any, sum, max, min, sorted of a list -/
def boolsD : List PD → Option (List Bool)
  | [] => some []
  | .bool b :: r => (boolsD r).map (b :: ·)
  | _ => none
def intsD : List PD → Option (List Int)
  | [] => some []
  | .int b :: r => (intsD r).map (b :: ·)
  | _ => none
theorem boolsD_eq : ∀ {ds : List PD} {bs : List Bool}, boolsD ds = some bs → ds = bs.map .bool
  | [], bs, e => by cases e; rfl
  | .bool b :: r, bs, e => by
    obtain ⟨z, e1, e2⟩ := Option.map_eq_some_iff.mp (show (boolsD r).map (b :: ·) = some bs from e)
    subst e2
    rw [boolsD_eq e1]
    rfl
theorem intsD_eq : ∀ {ds : List PD} {bs : List Int}, intsD ds = some bs → ds = bs.map .int
  | [], bs, e => by cases e; rfl
  | .int b :: r, bs, e => by
    obtain ⟨z, e1, e2⟩ := Option.map_eq_some_iff.mp (show (intsD r).map (b :: ·) = some bs from e)
    subst e2
    rw [intsD_eq e1]
    rfl
@[simp] theorem boolsD_map (bs : List Bool) : boolsD (bs.map .bool) = some bs := by
  induction bs with
  | nil => rfl
  | cons b bs ih => rw [List.map_cons]; show (boolsD _).map _ = _; rw [ih]; rfl
@[simp] theorem intsD_map (bs : List Int) : intsD (bs.map .int) = some bs := by
  induction bs with
  | nil => rfl
  | cons b bs ih => rw [List.map_cons]; show (intsD _).map _ = _; rw [ih]; rfl
theorem reps_bools {K : Frag} {F : Hp} : ∀ {bs : List Bool} {vs : List V}, Reps K F vs (bs.map .bool) → vs = bs.map V.bl
  | [], _, .nil => rfl
  | b :: bs, _, .cons w r => by
    rw [reps_bools r]
    cases w with
    | bl => rfl
    | dic _ _ e => cases e
    | dit _ _ e => cases e
theorem reps_ints {K : Frag} {F : Hp} : ∀ {bs : List Int} {vs : List V}, Reps K F vs (bs.map .int) → vs = bs.map V.int
  | [], _, .nil => rfl
  | b :: bs, _, .cons w r => by
    rw [reps_ints r]
    cases w with
    | int => rfl
    | dic _ _ e => cases e
    | dit _ _ e => cases e
def oBools (g : List Bool → Bool) : List O → Option O
  | [x] => match seqL x with
    | some ds => (boolsD ds).map fun bs => .fz (.bool (g bs))
    | none => none
  | _ => none
def oInts (g : List Int → Option PD) : List O → Option O
  | [x] => match seqL x with
    | some ds => match intsD ds with
      | some ns => (g ns).map .fz
      | none => none
    | none => none
  | _ => none
def oAny := oBools fun bs => bs.any id
def maxI : List Int → Int
  | [] => 0
  | [x] => x
  | x :: y :: r => max x (maxI (y :: r))
theorem maxI_is : ∀ {ns : List Int}, ns ≠ [] → maxI ns ∈ ns ∧ ∀ y ∈ ns, y ≤ maxI ns
  | [], h => absurd rfl h
  | [x], _ => by simp [maxI]
  | x :: y :: r, _ => by
    obtain ⟨h1, h2⟩ := maxI_is (ns := y :: r) (by simp)
    have e : maxI (x :: y :: r) = max x (maxI (y :: r)) := rfl
    rw [e]
    refine ⟨?_, fun z m => ?_⟩
    · rcases Int.le_total x (maxI (y :: r)) with l | l
      · rw [Int.max_eq_right l]; exact List.mem_cons_of_mem _ h1
      · rw [Int.max_eq_left l]; exact List.mem_cons_self
    · rcases List.mem_cons.mp m with m | m
      · rw [m]; exact Int.le_max_left _ _
      · exact Int.le_trans (h2 z m) (Int.le_max_right _ _)
def oMax1 := oInts fun ns => if ns = [] then none else some (.int (maxI ns))
section
variable {k : Kc}
theorem bools_ok {F H : Hp} {S : List Addr} {g : List Bool → Bool} {xs : List V} {os : List O} {o : O} (f : FLe F H) (ws : Vws k F H S xs os) (e : oBools g os = some o) : ∃ a bs, xs = [.ref a] ∧ SqL k.K H a (bs.map V.bl) ∧ o = .fz (.bool (g bs)) := by
  unfold oBools at e
  split at e
  · cases ws with
    | cons w ws =>
      cases ws
      split at e
      · rename_i ds es
        obtain ⟨bs, e1, e2⟩ := Option.map_eq_some_iff.mp e
        obtain ⟨a, vs, rfl, g1, g2⟩ := w.seqL f es
        have e3 := boolsD_eq e1
        subst e3
        rw [reps_bools g2] at g1
        exact ⟨a, bs, rfl, g1, e2.symm⟩
      · cases e
  · cases e
theorem ints_ok {F H : Hp} {S : List Addr} {g : List Int → Option PD} {xs : List V} {os : List O} {o : O} (f : FLe F H) (ws : Vws k F H S xs os) (e : oInts g os = some o) : ∃ a bs d, xs = [.ref a] ∧ SqL k.K H a (bs.map V.int) ∧ g bs = some d ∧ o = .fz d := by
  unfold oInts at e
  split at e
  · cases ws with
    | cons w ws =>
      cases ws
      split at e
      · rename_i ds es
        split at e
        · rename_i bs e1
          obtain ⟨d, e2, e4⟩ := Option.map_eq_some_iff.mp e
          obtain ⟨a, vs, rfl, g1, g2⟩ := w.seqL f es
          have e3 := intsD_eq e1
          subst e3
          rw [reps_ints g2] at g1
          exact ⟨a, bs, d, rfl, g1, e2, e4.symm⟩
        · cases e
      · cases e
  · cases e
theorem cb_any : CbV k (rAny k.K) oAny := by
  intro F H S xs os o Q f off th ws e h
  obtain ⟨a, bs, e1, e2, e3⟩ := bools_ok f ws e
  subst e3
  exact ⟨a, bs, e1, e2, h _ F H (Xt.refl f) (.fz (.bl _))⟩
theorem cb_max1 : CbV k (rMax k.K) oMax1 := by
  intro F H S xs os o Q f off th ws e h
  obtain ⟨a, bs, d, e1, e2, e3, e4⟩ := ints_ok f ws e
  split at e3
  · cases e3
  · rename_i hne
    cases e3
    subst e4
    refine ⟨a, bs, e1, e2, List.length_pos_iff.mpr hne, fun m m1 m2 => ?_⟩
    obtain ⟨h1, h2⟩ := maxI_is hne
    rw [Int.le_antisymm (h2 m m1) (m2 _ h1)]
    exact h _ F H (Xt.refl f) (.fz (.int _))
end
end FM
namespace FM
open PySem PySem.Spec L2 PyProof.Rows
/-! ### zip of two lists, of two tuples; enumerate of a list -/
def pairD (a b : PD) : PD := .tuple [a, b]
def zipD (ds es : List PD) : List PD := List.zipWith pairD ds es
theorem zip_at {ds es : List PD} {i : Nat} (h : i < (zipD ds es).length) : ∃ (h1 : i < ds.length) (h2 : i < es.length), (zipD ds es)[i] = pairD ds[i] es[i] := by
  have h' : i < min ds.length es.length := by simpa [zipD] using h
  exact ⟨by omega, by omega, by simp [zipD]⟩
section
variable {k : Kc} {P : Hp → Hp → Prop} {a b : Addr} {vs ws : List V} {ds es : List PD}
theorem pair_new {F H : Hp} {T : Addr} {x y : V} {d e : PD} (f : FLe F H) (hT : H T = none) (r1 : Rep k.K F x d) (r2 : Rep k.K F y e) : ∃ F', Xt F H F' (upd H T (.tup [x, y])) ∧ Rep k.K F' (.ref T) (pairD d e) :=
  ⟨_, Xt.new f hT, .tup (.inl upd_same) (.cons (r1.sub (Xt.new f hT).sub) (.cons (r2.sub (Xt.new f hT).sub) .nil))⟩
def enumGo : Nat → List PD → List PD
  | _, [] => []
  | n, d :: ds => pairD (.int (n : Int)) d :: enumGo (n + 1) ds
theorem enum_at : ∀ {ds : List PD} {n i : Nat} (h : i < (enumGo n ds).length), ∃ (h1 : i < ds.length), (enumGo n ds)[i] = pairD (.int ((n + i : Nat) : Int)) ds[i]
  | [], _, _, h => absurd h (Nat.not_lt_zero _)
  | d :: ds, n, 0, h => ⟨Nat.zero_lt_succ _, rfl⟩
  | d :: ds, n, i + 1, h => by
    obtain ⟨h1, h2⟩ := enum_at (ds := ds) (n := n + 1) (i := i) (by simpa [enumGo] using h)
    refine ⟨Nat.succ_lt_succ h1, ?_⟩
    have e : (enumGo n (d :: ds))[i + 1] = (enumGo (n + 1) ds)[i]'(by simpa [enumGo] using h) := rfl
    rw [e, h2, show n + 1 + i = n + (i + 1) by omega]
    rfl
theorem enum_len : ∀ (ds : List PD) (n : Nat), (enumGo n ds).length = ds.length
  | [], _ => rfl
  | _ :: ds, n => congrArg (· + 1) (enum_len ds (n + 1))
theorem walkD_enum (hs : ∀ F H, P F H → FLe F H → SqL k.K H a vs ∧ Reps k.K F vs ds) (l1 : vs.length = ds.length) : WalkD k P (Ite k.K a) (enumGo 0 ds) := by
  refine ⟨fun i F H hi p f => ?_, fun F H p f => ?_, fun i F H x H' hi p f y => ?_⟩
  · obtain ⟨h1, _⟩ := enum_at hi
    exact ⟨vs, vs[i], (hs F H p f).1, List.getElem?_eq_getElem (by omega)⟩
  · exact ⟨vs, (hs F H p f).1, by rw [enum_len]; omega⟩
  · obtain ⟨h1, h3⟩ := enum_at hi
    obtain ⟨s1, r1⟩ := hs F H p f
    obtain ⟨T, x1, rfl, hT, rfl, e1⟩ := y
    obtain ⟨v, g1, g2⟩ := r1.get (i := i) (d := ds[i]) (by simp [h1])
    rw [e1 vs s1] at g1
    cases g1
    rw [h3, Nat.zero_add]
    exact pair_new f hT (.int _) g2
def qEnum (r : List O → Option (List O)) : QI := fun ρ => match r ρ with
  | some [.fz (.list ds)] => some (enumGo 0 ds)
  | _ => none
theorem tif_enum {ta : TA} {qs : List O → Option (List O)} (ha : TAv k ta qs) : TIf k (iEnum k.K ta) (qEnum qs) := by
  intro F H σ ρ S xs R q e g
  unfold qEnum at e
  split at e
  · rename_i ds e1
    have e' := Option.some.inj e
    subst e'
    refine ha F H σ ρ S _ _ q e1 fun us F1 H1 x1 w1 => ?_
    cases w1 with
    | cons w ww =>
      cases ww
      obtain ⟨a, vs, rfl, g1, g2⟩ := w.fzL rfl
      exact ⟨a, vs, rfl, sqL_le x1.fle g1, g _ F1 H1 x1 (walkD_enum (fun F2 H2 p f => ⟨sqL_le f (sqL_sub p g1), g2.sub p⟩) g2.length)⟩
  · cases e
end
end FM
namespace FM
open PySem PySem.Spec L2 PyProof.Rows
/-! ### sorted of ints -/
def sortI (ns : List Int) : List Int := ns.mergeSort (fun a b => decide (a ≤ b))
theorem sortI_perm (ns : List Int) : (sortI ns).Perm ns := List.mergeSort_perm _ _
theorem sortI_sorted (ns : List Int) : (sortI ns).Pairwise (· ≤ ·) := by
  have h := List.pairwise_mergeSort (le := fun a b : Int => decide (a ≤ b)) (fun a b c h1 h2 => by simp at h1 h2 ⊢; omega) (fun a b => by simp; omega) ns
  exact h.imp fun h => by simpa using h
theorem sorted_unique : ∀ {l r : List Int}, l.Perm r → l.Pairwise (· ≤ ·) → r.Pairwise (· ≤ ·) → l = r
  | [], r, p, _, _ => p.nil_eq
  | a :: l, [], p, _, _ => by cases p.eq_nil
  | a :: l, b :: r, p, h1, h2 => by
    have h1' := List.pairwise_cons.mp h1
    have h2' := List.pairwise_cons.mp h2
    have ea : a = b := by
      have m1 : a ∈ b :: r := p.mem_iff.mp List.mem_cons_self
      have m2 : b ∈ a :: l := p.mem_iff.mpr List.mem_cons_self
      rcases List.mem_cons.mp m1 with e | m1
      · exact e
      · rcases List.mem_cons.mp m2 with e | m2
        · exact e.symm
        · exact Int.le_antisymm (h1'.1 b m2) (h2'.1 a m1)
    subst ea
    rw [sorted_unique (List.perm_cons a |>.mp p) h1'.2 h2'.2]
section
variable {k : Kc}
theorem ints_reps {K : Frag} {F : Hp} : ∀ ns : List Int, Reps K F (ns.map V.int) (ns.map .int)
  | [] => .nil
  | n :: ns => .cons (.int n) (ints_reps ns)
end
/-! ### defs that call themselves -/
theorem CalG.bad {P : Program} {w : World} {K : Frag} {mg : Str → Option Value} {base : Heap} {x qual : Str} {params : Arguments} {body : List Stmt} {scope : Scope} {dvs : List V} {kws : List (Str × V)} {f : Addr} {fd : FuncData} {ps : List Str} {kc : Kc} {n k : Nat} {g : List O → FR} (hg : g = fun _ => .bad)
    (F : FunD K x qual params body scope dvs kws f fd) (hm : mg x = some (.ref f)) (b : Binds K fd ps []) : CalG P w K mg base k x (spM kc n g) := by
  subst hg
  exact ⟨f, fd, ps, ⟨fun vs H Q E h => let ⟨_, _, _, _, _, _, z⟩ := h; z.elim, fun A outer s H args us vs Q E _ _ _ _ h => let ⟨_, _, _, _, _, _, z⟩ := h; z.elim⟩, hm, F.kp, b⟩
end FM
namespace FM
open PySem PySem.Spec L2 PyProof.Rows
/-! ### an empty dict -/
def qDk0 : QE := fun _ => some (.dic [])
theorem Qs.newN {k : Kc} {F H : Hp} {σ : L2.St} {ρ : List O} {S : List Addr} (q : Qs k F H σ ρ S) {p : Addr} {ob : HO} (hp : H p = none) (hn : ∀ o u, ob ≠ .frz o u) : Xt F H F (upd H p ob) ∧ Fresh F H (upd H p ob) [p] := by
  refine ⟨Xt.own q.fle hp, ⟨List.nodup_cons.mpr ⟨List.not_mem_nil, .nil⟩, (fun a m => ?_), (fun a m => ?_), (fun a m o u z => ?_)⟩⟩
  · rw [List.mem_singleton.mp m]; exact hp
  · rw [List.mem_singleton.mp m]; exact fle_none q.fle hp
  · rw [List.mem_singleton.mp m, upd_same] at z
    exact hn o u (Option.some.inj z)
theorem ten_dk0 {k : Kc} : TEn k tDNewK qDk0 := by
  intro F H σ ρ S o Q q e h
  have e' := Option.some.inj e
  subst e'
  intro p hp
  obtain ⟨x, fr⟩ := q.newN (ob := .dK []) hp (fun _ _ z => by cases z)
  exact h _ _ _ _ x (.dic (.inl upd_same) .nil) fr
/-! ### comparisons in a chain -/
end FM
namespace FM
open PySem PySem.Spec L2 PyProof.Rows
/-! ### more words at written-out slots -/
section
variable {ρ : List O} {a b : QE} {r : List O → Option (List O)}
@[simp] theorem qAndV_eq : qAndV a b ρ = match a ρ with
    | some (.fz (.bool true)) => b ρ
    | some (.fz (.bool false)) => some (.fz (.bool false))
    | _ => none := rfl
@[simp] theorem qYes_eq : qYes ρ = some true := rfl
@[simp] theorem wipeO_nil : wipeO ρ [] = ρ := rfl
@[simp] theorem wipeO_cons {v : Nat} {vs : List Nat} : wipeO ρ (v :: vs) = (wipeO ρ vs).set v .dead := rfl
@[simp] theorem qLc_eq {qi : QI} {f : QG} {c : List O → Option Bool} {e : QE} {vs : List Nat} : qLc qi f c e vs ρ = match qi ρ with
    | none => none
    | some xs => if xs.length ≤ sizeLine then (lcGo f c e (wipeO ρ vs) xs).map .lst else none := rfl
@[simp] theorem lcGo_nil {f : QG} {c : List O → Option Bool} {e : QE} : lcGo f c e ρ [] = some [] := rfl
theorem lcGo_cons {f : QG} {c : List O → Option Bool} {e : QE} {x : PD} {xs : List PD} : lcGo f c e ρ (x :: xs) = match f x ρ with
    | none => none
    | some ρ1 => match c ρ1 with
      | none => none
      | some false => lcGo f c e ρ xs
      | some true => match e ρ1 with
        | some (.fz d) => (lcGo f c e ρ xs).map fun r => d :: r
        | _ => none := rfl
@[simp] theorem fTup_eq {n : Nat} {f : List PD → List O → Option (List O)} {ds : List PD} : fTup n f (.tuple ds) ρ = if ds.length = n then f ds ρ else none := rfl
@[simp] theorem fCons_eq {f : QG} {g : List PD → List O → Option (List O)} {d : PD} {ds : List PD} : fCons f g (d :: ds) ρ = match f d ρ with
    | none => none
    | some ρ' => g ds ρ' := rfl
@[simp] theorem fNil_eq : fNil [] ρ = some ρ := rfl
@[simp] theorem oIsN_fz {d : PD} : oIsN (.fz d) (.fz .none) = some (.fz (.bool (match d with | .none => true | _ => false))) := by
  cases d <;> rfl
@[simp] theorem qItA_eq : qItA a ρ = match a ρ with
    | none => none
    | some x => viA x := rfl
@[simp] theorem viA_l {ds : List PD} : viA (.fz (.list ds)) = some ds := rfl
@[simp] theorem viA_t {ds : List PD} : viA (.fz (.tuple ds)) = some ds := rfl
@[simp] theorem viA_lst {ds : List PD} : viA (.lst ds) = some ds := rfl
@[simp] theorem boolsD_nil : boolsD [] = some [] := rfl
@[simp] theorem boolsD_cons {x : Bool} {ds : List PD} : boolsD (.bool x :: ds) = (boolsD ds).map (x :: ·) := rfl
@[simp] theorem intsD_nil : intsD [] = some [] := rfl
@[simp] theorem intsD_cons {x : Int} {ds : List PD} : intsD (.int x :: ds) = (intsD ds).map (x :: ·) := rfl
@[simp] theorem oAny_l {ds : List PD} : oAny [.fz (.list ds)] = (boolsD ds).map fun bs => .fz (.bool (bs.any id)) := rfl
@[simp] theorem oAny_lst {ds : List PD} : oAny [.lst ds] = (boolsD ds).map fun bs => .fz (.bool (bs.any id)) := rfl
@[simp] theorem oEq_b {x y : Bool} : oEq (.fz (.bool x)) (.fz (.bool y)) = some (.fz (.bool (decide (x = y)))) := by
  cases x <;> cases y <;> simp [oEq, oEqD, strs2, SeqAt.shaped, PyData.canLay0, PyData.depth, PyData.eqv]
@[simp] theorem oNe_b {x y : Bool} : oNe (.fz (.bool x)) (.fz (.bool y)) = some (.fz (.bool (!decide (x = y)))) := by
  cases x <;> cases y <;> simp [oNe, oNeD, strs2, SeqAt.shaped, PyData.canLay0, PyData.depth, PyData.eqv]
@[simp] theorem qDk0_eq : qDk0 ρ = some (.dic []) := rfl
@[simp] theorem toPD_dic {ds : List (Key × PD)} : toPD (.dic ds) = some (.dict (ds.map kp)) := rfl
@[simp] theorem oAdd_tt {xs ys : List PD} : oAdd (.fz (.tuple xs)) (.fz (.tuple ys)) = if xs.length + ys.length ≤ sizeLine then some (.fz (.tuple (xs ++ ys))) else none := rfl
@[simp] theorem oAdd_ll {xs ys : List PD} : oAdd (.fz (.list xs)) (.fz (.list ys)) = if xs.length + ys.length ≤ sizeLine then some (.fz (.list (xs ++ ys))) else none := rfl
end
/-- a comprehension, item by item -/
theorem lcGo_all {f : QG} {c : List O → Option Bool} {e : QE} {ρ : List O} {p : PD → Bool} {h : PD → PD} : ∀ {xs : List PD}, (∀ x ∈ xs, ∃ ρ1, f x ρ = some ρ1 ∧ c ρ1 = some (p x) ∧ (p x = true → e ρ1 = some (.fz (h x)))) → lcGo f c e ρ xs = some ((xs.filter p).map h)
  | [], _ => rfl
  | x :: xs, hx => by
    obtain ⟨ρ1, e1, e2, e3⟩ := hx x List.mem_cons_self
    have ih := lcGo_all (xs := xs) fun y m => hx y (List.mem_cons_of_mem _ m)
    rw [lcGo_cons, e1]
    simp only [e2]
    cases hp : p x with
    | false => simp [ih, hp]
    | true => simp [ih, hp, e3 hp]
theorem lcGo_map {f : QG} {e : QE} {ρ : List O} {h : PD → PD} {xs : List PD} (hx : ∀ x ∈ xs, ∃ ρ1, f x ρ = some ρ1 ∧ e ρ1 = some (.fz (h x))) : lcGo f qYes e ρ xs = some (xs.map h) := by
  have := lcGo_all (f := f) (c := qYes) (e := e) (ρ := ρ) (p := fun _ => true) (h := h) (xs := xs) fun x m => by
    obtain ⟨ρ1, e1, e2⟩ := hx x m
    exact ⟨ρ1, e1, rfl, fun _ => e2⟩
  rw [this, show xs.filter (fun _ => true) = xs from List.filter_eq_self.mpr fun _ _ => rfl]
/-! ### plain data, to a depth -/
end FM
namespace FM
open PySem PySem.Spec L2 PyProof.Rows
/-! ### zip of lists and tuples in any mix -/
def SqB (b : Bool) (K : Frag) (H : Hp) (a : Addr) (xs : List V) : Prop := match b with
  | true => SqL K H a xs
  | false => SqT K H a xs
def AtB (b : Bool) (h : Heap) (a : Addr) (its : Array Value) : Prop := match b with
  | true => h.IsList a its
  | false => h.IsTuple a its
def IterB (b : Bool) (h : Heap) (it a : Addr) (i : Nat) : Prop := match b with
  | true => h.IsListIter it a i
  | false => h.IsTupleIter it a i
theorem sqB_inv {X : Cx} {pins : List (Addr × Obj)} {σ : L2.St} {H : Hp} {s : Shared} {b : Bool} {a : Addr} {xs : List V} (I : Inv X pins σ H s) (h : SqB b X.K H a xs) : ∃ its : List Value, Vals xs its ∧ AtB b s.heap a its.toArray := by
  cases b with
  | true =>
    obtain ⟨its, rv, p, _⟩ := I.list h
    exact ⟨its, rv, p.isList⟩
  | false =>
    obtain ⟨its, rv, p, _⟩ := I.tuple h
    exact ⟨its, rv, p⟩
theorem sqB_inj {X : Cx} {pins : List (Addr × Obj)} {σ : L2.St} {H : Hp} {s : Shared} {b : Bool} {a : Addr} {xs ys : List V} (I : Inv X pins σ H s) (h1 : SqB b X.K H a xs) (h2 : SqB b X.K H a ys) : xs = ys := by
  cases b with
  | true => exact I.list_inj h1 h2
  | false => exact I.tuple_inj h1 h2
section
variable {P : Program} {w : World} {A : Around} {it a : Addr} {items : Array Value}
theorem IterB.at {b : Bool} {h h' : Heap} {i : Nat} (x : IterB b h it a i) (k : ∀ o, h.get? it = some o → h'.get? it = some o) : IterB b h' it a i := by
  cases b with
  | true => exact Heap.IsListIter.at x k
  | false => exact Heap.IsTupleIter.at x k
theorem AtB.at {b : Bool} {h h' : Heap} (x : AtB b h a items) (k : ∀ o, h.get? a = some o → h'.get? a = some o) : AtB b h' a items := by
  cases b with
  | true => exact Heap.IsList.at x k
  | false => exact Heap.IsTuple.at x k
theorem IterB.ob {b : Bool} {h : Heap} {i : Nat} (x : IterB b h it a i) : ∃ o, h.get? it = some o ∧ ∀ v, o.data ≠ .cell v := by
  cases b with
  | true => obtain ⟨o, e, _, d⟩ := x; exact ⟨o, e, fun v q => by rw [d] at q; cases q⟩
  | false => obtain ⟨o, e, _, d⟩ := x; exact ⟨o, e, fun v q => by rw [d] at q; cases q⟩
theorem AtB.lt {b : Bool} {h : Heap} (x : AtB b h a items) : a < h.objs.size := by
  cases b with
  | true => obtain ⟨o, e, _⟩ := x; exact Heap.lt_size e
  | false => obtain ⟨o, e, _⟩ := x; exact Heap.lt_size e
theorem drawsB (b : Bool) (hh : A.handled = none) (hne : a ≠ it) : Draws P w A it [it, a] items.size (fun i v => items[i]? = some v) (fun i h => IterB b h it a i ∧ AtB b h a items) := by
  cases b with
  | true => exact Draws.list hh it a hne items
  | false => exact Draws.tuple hh it a hne items
/-- where it has come to its end -/
theorem drawsEnd (b : Bool) (hh : A.handled = none) {i : Nat} (hi : items[i]? = none) : Draws P w A it [it, a] i (fun _ _ => False) (fun j h => j = i ∧ IterB b h it a i ∧ AtB b h a items) where
  live := fun j h st => let ⟨o, e, _⟩ := st.2.1.ob; ⟨o, e⟩
  frame := fun j h h' st k => ⟨st.1, st.2.1.at (k it List.mem_cons_self), st.2.2.at (k a (by simp))⟩
  item := fun j s Q E hj st hQ => absurd st.1 (Nat.ne_of_lt hj)
  done := fun s Q E st hE => by
    cases b with
    | true => exact wpAny_nextOf_list_end hh st.2.1 st.2.2 hi hE
    | false => exact wpAny_nextOf_tuple_end hh st.2.1 st.2.2 hi hE
theorem beginsB (b : Bool) (a : Addr) (items : Array Value) : ∃ o, Begins (.ref a) o (fun h => AtB b h a items) ∧ ∀ (h : Heap) (it : Addr), h.get? it = some o → IterB b h it a 0 := by
  cases b with
  | true => exact ⟨_, begins_list a items, fun h it e => ⟨_, e, rfl, rfl⟩⟩
  | false => exact ⟨_, begins_tuple a items, fun h it e => ⟨_, e, rfl, rfl⟩⟩
end
def Itm (K : Frag) (b1 b2 : Bool) (a b : Addr) : It :=
  ⟨fun i H => ∃ (xs ys : List V) (x y : V), SqB b1 K H a xs ∧ SqB b2 K H b ys ∧ xs[i]? = some x ∧ ys[i]? = some y,
    fun i H v H' => ∃ (T : Addr) (x y : V), v = .ref T ∧ H T = none ∧ H' = upd H T (.tup [x, y]) ∧ (∀ xs, SqB b1 K H a xs → xs[i]? = some x) ∧ ∀ ys, SqB b2 K H b ys → ys[i]? = some y,
    fun i H => ∃ xs ys : List V, SqB b1 K H a xs ∧ SqB b2 K H b ys ∧ (xs.length ≤ i ∨ ys.length ≤ i)⟩
def tnM (b1 b2 : Bool) (z TI TO i1 i2 a b : Addr) (i : Nat) (h : Heap) : Prop := IsZip h z TI TO .none ∧ IsTupOf2 h TI (.ref i1) (.ref i2) ∧ (∃ x y, IsTupOf2 h TO x y) ∧ IterB b1 h i1 a i ∧ IterB b2 h i2 b i
theorem turn_zipM {P : Program} {w : World} {K : Frag} {elts : List Expr} {kk : Nat} {tpos : Pos} {b1 b2 : Bool} {a b z TI TO i1 i2 : Addr} (S : ZipSep2 z TI TO i1 i2 [i1, a] [i2, b]) (ha : a ≠ i1) (hb : b ≠ i2) :
    Turn P w K (.Tuple elts kk tpos) (Itm K b1 b2 a b) [z, TI, TO, i1, i2] z (tnM b1 b2 z TI TO i1 i2 a b) where
  mem := List.mem_cons_self
  obj := fun i h st c hc => by
    obtain ⟨q1, q2, ⟨x, y, q3⟩, q4, q5⟩ := st
    simp only [List.mem_cons, List.not_mem_nil, or_false] at hc
    rcases hc with rfl | rfl | rfl | rfl | rfl
    · exact ⟨_, q1, fun v q => by cases q⟩
    · exact ⟨_, q2, fun v q => by cases q⟩
    · exact ⟨_, q3, fun v q => by cases q⟩
    · exact q4.ob
    · exact q5.ob
  keep := fun i h h' st k => by
    obtain ⟨q1, q2, ⟨x, y, q3⟩, q4, q5⟩ := st
    exact ⟨k z List.mem_cons_self _ q1, k TI (by simp) _ q2, ⟨x, y, k TO (by simp) _ q3⟩, q4.at (k i1 (by simp)), q5.at (k i2 (by simp))⟩
  item := by
    rintro X rfl rfl rfl hc i pins s σ H E I hf ⟨q1, q2, q3, q4, q5⟩ ⟨xs, ys, x, y, g1, g2, e1, e2⟩
    obtain ⟨its1, r1, p1⟩ := sqB_inv I g1
    obtain ⟨its2, r2, p2⟩ := sqB_inv I g2
    obtain ⟨u1, o1, w1⟩ := r1.get e1
    obtain ⟨u2, o2, w2⟩ := r2.get e2
    have hd : X.A.in1.handled = none := I.ok.hd hc
    have l1 : i < its1.length := (List.getElem?_eq_some_iff.mp o1).1
    have l2 : i < its2.length := (List.getElem?_eq_some_iff.mp o2).1
    have G := GoesN.zip2 (elts := elts) (x1 := kk) (pos := tpos) S (drawsB (P := X.prog) (w := X.w) (items := its1.toArray) b1 hd ha) (drawsB (P := X.prog) (w := X.w) (items := its2.toArray) b2 hd hb)
    refine G.goes i s (fun u s2 => ∃ x H', Inv X pins σ H' s2 ∧ RelV x u ∧ (Itm X.K b1 b2 a b).yld i H x H' ∧ tnM b1 b2 z TI TO i1 i2 a b (i + 1) s2.heap ∧ ∀ b ∈ [z, TI, TO, i1, i2], H' b = none) E (by simp; omega) ⟨q1, q2, q3, ⟨q4, p1⟩, ⟨q5, p2⟩⟩ ?_
    rintro v h' tk ⟨T, v1, v2, rfl, hT, a1, a2, c⟩ ⟨t1, t2, t3, t4, t5⟩ hk htk
    rw [List.getElem?_toArray, o1] at a1
    rw [List.getElem?_toArray, o2] at a2
    cases a1
    cases a2
    obtain ⟨oT, c1, c2, c3, c4⟩ := c
    have mk : ObjOk X.prog X.w (upd H T (.tup [x, y])) h' T (.tup [x, y]) := ⟨show 2 ≤ sizeLine by decide, [u1, u2], .cons w1 (.cons w2 .nil), oT, c1, c2, c3, c4⟩
    have I2 := I.turnedNew (t' := tk) (ch := [z, TI, TO, i1, i2]) (fun c o nc q => hk c o (fun m => nc (by simp at m ⊢; rcases m with m | m | m | m <;> simp [m])) q) hf hT mk
    refine ⟨.ref T, _, I2, rfl, ⟨T, x, y, rfl, I.hok.fresh hT, rfl, fun l hl => by rw [sqB_inj I hl g1]; exact e1, fun l hl => by rw [sqB_inj I hl g2]; exact e2⟩, ⟨t1, t2, t3, t4.1, t5.1⟩, fun c hm => ?_⟩
    obtain ⟨oc, ec, _⟩ : ∃ o, s.heap.get? c = some o ∧ True := by
      simp only [List.mem_cons, List.not_mem_nil, or_false] at hm
      rcases hm with rfl | rfl | rfl | rfl | rfl
      · exact ⟨_, q1, trivial⟩
      · exact ⟨_, q2, trivial⟩
      · obtain ⟨_, _, q3⟩ := q3; exact ⟨_, q3, trivial⟩
      · obtain ⟨o, e, _⟩ := q4.ob; exact ⟨o, e, trivial⟩
      · obtain ⟨o, e, _⟩ := q5.ob; exact ⟨o, e, trivial⟩
    have : c < T := Nat.lt_of_lt_of_le (Heap.lt_size ec) hT
    rw [upd_ne (Nat.ne_of_lt this)]
    exact (hf c hm).1
  done := by
    rintro X rfl rfl rfl hc i pins s σ H E I hf ⟨q1, q2, q3, q4, q5⟩ ⟨xs, ys, g1, g2, hz⟩
    obtain ⟨its1, r1, p1⟩ := sqB_inv I g1
    obtain ⟨its2, r2, p2⟩ := sqB_inv I g2
    have hd : X.A.in1.handled = none := I.ok.hd hc
    have n1 := r1.length
    have n2 := r2.length
    have fin : ∀ h' tk, (∀ b o, b ∉ [z, TO, i1, i2] → s.heap.get? b = some o → h'.get? b = some o) → s.toks ≤ tk → Inv X pins σ H { s with heap := h', toks := tk } := fun h' tk hk _ =>
      I.turnedL (t' := tk) (ch := [z, TI, TO, i1, i2]) (fun c o nc q => hk c o (fun m => nc (by simp at m ⊢; rcases m with m | m | m | m <;> simp [m])) q) hf
    by_cases c1 : xs.length ≤ i
    · have k1 : its1.toArray[i]? = none := by simp; omega
      by_cases c2 : ys.length ≤ i
      · have k2 : its2.toArray[i]? = none := by simp; omega
        have G := GoesN.zip2 (elts := elts) (x1 := kk) (pos := tpos) S (drawsEnd (P := X.prog) (w := X.w) (it := i1) (a := a) b1 hd k1) (drawsEnd (P := X.prog) (w := X.w) (it := i2) (a := b) b2 hd k2)
        exact G.stops s _ E (by rw [Nat.min_self]; exact ⟨q1, q2, q3, ⟨rfl, q4, p1⟩, ⟨rfl, q5, p2⟩⟩) fin
      · have G := GoesN.zip2 (elts := elts) (x1 := kk) (pos := tpos) S (drawsEnd (P := X.prog) (w := X.w) (it := i1) (a := a) b1 hd k1) (drawsB (P := X.prog) (w := X.w) (items := its2.toArray) b2 hd hb)
        have e : min i its2.toArray.size = i := by simp; omega
        exact G.stops s _ E (by rw [e]; exact ⟨q1, q2, q3, ⟨rfl, q4, p1⟩, ⟨q5, p2⟩⟩) fin
    · have k2 : its2.toArray[i]? = none := by simp; omega
      have G := GoesN.zip2 (elts := elts) (x1 := kk) (pos := tpos) S (drawsB (P := X.prog) (w := X.w) (items := its1.toArray) b1 hd ha) (drawsEnd (P := X.prog) (w := X.w) (it := i2) (a := b) b2 hd k2)
      have e : min its1.toArray.size i = i := by simp; omega
      exact G.stops s _ E (by rw [e]; exact ⟨q1, q2, q3, ⟨q4, p1⟩, ⟨rfl, q5, p2⟩⟩) fin
  self := fun A i s Q E st h => wpAny_pyIter_zip st.1 h
def iZipM (K : Frag) (ta : TA) : TI := fun σ H R => ta σ H fun vs H1 => ∃ (a b : Addr) (b1 b2 : Bool) (xs ys : List V), vs = [.ref a, .ref b] ∧ SqB b1 K H1 a xs ∧ SqB b2 K H1 b ys ∧ R (Itm K b1 b2 a b) H1
theorem pi_zipM {X : Cx} {e e2 : Expr} {ta : TA} {p pos tpos : Pos} {elts : List Expr} {kk : Nat} (hg : Gl X "zip") (hm : X.mg "zip" = none) (ha : PA X [e, e2] ta)
    (hs : starEach [e, e2] X.env = (false, eval e X.env) :: starEach [e2] X.env := by rfl) (hpl : (backTo pos (starEach [e2] X.env)).any (·.1) = false := by rfl) :
    PI X (.Tuple elts kk tpos) (.Call (.Name "zip" p) [e, e2] [] pos) (iZipM X.K ta) := by
  refine ⟨fun pins s σ H R I h => Call_ (ld_blt I hg hm PyProof.Rows.boot_zip (PyProof.Rows.callWith_type1 (thn (ha.run pos pins s σ H _ I h) fun us s1 ⟨vs, H1, I1, r1, q1⟩ => ?_) hs hpl))⟩
  obtain ⟨a, b, b1, b2, xs, ys, rfl, g1, g2, q⟩ := q1
  cases r1 with
  | cons r rr =>
    cases rr with
    | cons r' rr =>
      cases rr
      cases r
      cases r'
      obtain ⟨its1, _, p1⟩ := sqB_inv I1 g1
      obtain ⟨its2, _, p2⟩ := sqB_inv I1 g2
      obtain ⟨o1, B1, it1⟩ := beginsB b1 a its1.toArray
      obtain ⟨o2, B2, it2⟩ := beginsB b2 b its2.toArray
      have la := p1.lt
      have lb := p2.lt
      refine zip_begins2 B1 B2 p1 p2 fun h' k1 k2 k3 k4 k5 hsz hk => wpAny_pyIter_zip k1 ?_
      have S := zip_sep2 (N := s1.heap.objs.size) (fp1 := [a]) (fp2 := [b]) (fun c m => by rw [List.mem_singleton.mp m]; exact la) (fun c m => by rw [List.mem_singleton.mp m]; exact lb)
      refine ⟨s1.heap.objs.size + 4, [s1.heap.objs.size + 4, s1.heap.objs.size + 2, s1.heap.objs.size + 3, s1.heap.objs.size, s1.heap.objs.size + 1], tnM b1 b2 _ _ _ _ _ a b, _, H1, rfl, I1.kept (t' := s1.toks) hk,
        turn_zipM S (Nat.ne_of_lt la) (Nat.ne_of_lt (Nat.lt_succ_of_lt lb)), ⟨k1, k2, ⟨_, _, k3⟩, it1 _ _ k4, it2 _ _ k5⟩, fun c hc => ?_, q⟩
      have hle : s1.heap.objs.size ≤ c := by
        simp only [List.mem_cons, List.not_mem_nil, or_false] at hc
        rcases hc with rfl | rfl | rfl | rfl | rfl
        · exact Nat.le_add_right _ _
        · exact Nat.le_add_right _ _
        · exact Nat.le_add_right _ _
        · exact Nat.le_refl _
        · exact Nat.le_add_right _ _
      exact I1.fpOk hle (I1.hok.fresh hle)
def qZipV (r : List O → Option (List O)) : QI := fun ρ => match r ρ with
  | some [x, y] => match viA x, viA y with
    | some ds, some es => some (zipD ds es)
    | _, _ => none
  | _ => none
section
variable {k : Kc} {P : Hp → Hp → Prop} {a b : Addr} {vs ws : List V} {ds es : List PD}
theorem walkD_zipM {b1 b2 : Bool} (hs : ∀ F H, P F H → FLe F H → SqB b1 k.K H a vs ∧ Reps k.K F vs ds ∧ SqB b2 k.K H b ws ∧ Reps k.K F ws es) (l1 : vs.length = ds.length) (l2 : ws.length = es.length) : WalkD k P (Itm k.K b1 b2 a b) (zipD ds es) := by
  refine ⟨fun i F H hi p f => ?_, fun F H p f => ?_, fun i F H x H' hi p f y => ?_⟩
  · obtain ⟨h1, h2, _⟩ := zip_at hi
    obtain ⟨s1, r1, s2, r2⟩ := hs F H p f
    exact ⟨vs, ws, vs[i], ws[i], s1, s2, List.getElem?_eq_getElem (by omega), List.getElem?_eq_getElem (by omega)⟩
  · obtain ⟨s1, r1, s2, r2⟩ := hs F H p f
    refine ⟨vs, ws, s1, s2, ?_⟩
    have : (zipD ds es).length = min ds.length es.length := by simp [zipD]
    omega
  · obtain ⟨h1, h2, h3⟩ := zip_at hi
    obtain ⟨s1, r1, s2, r2⟩ := hs F H p f
    obtain ⟨T, x1, y1, rfl, hT, rfl, e1, e2⟩ := y
    obtain ⟨v, g1, g2⟩ := r1.get (i := i) (d := ds[i]) (by simp [h1])
    obtain ⟨w, g3, g4⟩ := r2.get (i := i) (d := es[i]) (by simp [h2])
    rw [e1 vs s1] at g1
    rw [e2 ws s2] at g3
    cases g1
    cases g3
    rw [h3]
    exact pair_new f hT g2 g4
theorem sqB_sub {K : Frag} {F H F' H' : Hp} {b : Bool} {a : Addr} {xs : List V} (x : Xt F H F' H') (h : SqB b K H a xs) : SqB b K H' a xs := by
  cases b with
  | true => exact sqL_sub x.ex h
  | false => exact sqT_sub x.ex h
theorem vw_seqB {F H : Hp} {S : List Addr} {v : V} {o : O} {ds : List PD} (f : FLe F H) (w : Vw k F H S v o) (e : viA o = some ds) : ∃ (b : Bool) (a : Addr) (vs : List V), v = .ref a ∧ SqB b k.K H a vs ∧ Reps k.K F vs ds := by
  rcases viA_or e with e | e
  · obtain ⟨a, vs, rfl, g1, g2⟩ := w.seqL f e
    exact ⟨true, a, vs, rfl, g1, g2⟩
  · obtain ⟨a, vs, rfl, g1, g2⟩ := w.seqR f e
    exact ⟨false, a, vs, rfl, g1, g2⟩
theorem tiv_zip {ta : TA} {qs : List O → Option (List O)} (ha : TAv k ta qs) : TIv k (iZipM k.K ta) (qZipV qs) := by
  intro F H σ ρ S xs R q e g
  unfold qZipV at e
  split at e
  · rename_i x y e1
    split at e
    · rename_i ds es d1 d2
      cases e
      refine ha F H σ ρ S _ _ q e1 fun us F1 H1 x1 w1 => ?_
      cases w1 with
      | cons w ww =>
        cases ww with
        | cons w' ww =>
          cases ww
          obtain ⟨b1, a, vs, rfl, g1, g2⟩ := vw_seqB x1.fle w d1
          obtain ⟨b2, b, ws, rfl, g3, g4⟩ := vw_seqB x1.fle w' d2
          exact ⟨a, b, b1, b2, vs, ws, rfl, g1, g3, g _ F1 H1 x1 (walkD_zipM (fun F2 H2 p f => ⟨sqB_sub p g1, g2.sub p.sub, sqB_sub p g3, g4.sub p.sub⟩) g2.length g4.length)⟩
    · cases e
  · cases e
end
section
variable {ρ : List O} {r : List O → Option (List O)}
@[simp] theorem qZipV_eq : qZipV r ρ = match r ρ with
    | some [x, y] => match viA x, viA y with
      | some ds, some es => some (zipD ds es)
      | _, _ => none
    | _ => none := rfl
end
end FM
namespace FM
open PySem PySem.Spec L2 PyProof.Rows
/-! ### facts for the laws -/
def up (n b : Int) : Int := (n + b - 1) / b * b
def thD (p : Int × Int) : PD := .tuple [.int p.1, .int p.2]
def okT (ts : List (Int × Int)) : Prop := ∀ p ∈ ts, 1 ≤ p.1 ∧ p.1 ≤ 10 ^ 9 ∧ 1 ≤ p.2 ∧ p.2 ≤ 64
theorem at_th {ts : List (Int × Int)} {t : Nat} (h : t < ts.length) : atI (ts.map thD) (t : Int) = some (.tuple [.int (ts.getD t (1, 1)).1, .int (ts.getD t (1, 1)).2]) := by
  rw [atI_nn (by omega), List.getElem?_map]
  simp [thD, h]
theorem okT_at {ts : List (Int × Int)} {t : Nat} (o : okT ts) (h : t < ts.length) : 1 ≤ (ts.getD t (1, 1)).1 ∧ (ts.getD t (1, 1)).1 ≤ 10 ^ 9 ∧ 1 ≤ (ts.getD t (1, 1)).2 ∧ (ts.getD t (1, 1)).2 ≤ 64 := by
  apply o
  rw [List.getD_eq_getElem?_getD, List.getElem?_eq_getElem h]
  exact List.getElem_mem h
def natD (t : Nat) : PD := .int (t : Int)
theorem canLay_ints : ∀ l : List Int, PyData.canLayAll0 (l.map .int) = true
  | [] => by simp [PyData.canLayAll0]
  | i :: l => by simp [PyData.canLayAll0, PyData.canLay0, canLay_ints l]
theorem depth_ints : ∀ l : List Int, PyData.depthAll (l.map .int) = 0
  | [] => by simp [PyData.depthAll]
  | i :: l => by simp [PyData.depthAll, PyData.depth, depth_ints l]
theorem shaped_ints (l : List Int) : SeqAt.shaped (.list (l.map .int)) = true := by
  simp [SeqAt.shaped, PyData.canLay0, PyData.depth, canLay_ints, depth_ints]
theorem eqvAll_ints : ∀ l r : List Int, PyData.eqvAll (l.map .int) (r.map .int) = decide (l = r)
  | [], [] => by simp [PyData.eqvAll]
  | [], _ :: _ => by simp [PyData.eqvAll]
  | _ :: _, [] => by simp [PyData.eqvAll]
  | a :: l, b :: r => by
    simp only [List.map_cons, PyData.eqvAll, PyData.eqv, eqvAll_ints l r, beq_dec]
    rw [Bool.eq_iff_iff]
    simp
theorem eqv_ints (l r : List Int) : PyData.eqv (.list (l.map .int)) (.list (r.map .int)) = decide (l = r) := by
  rw [PyData.eqv, eqvAll_ints]
theorem strs2_none {x y : O} {l r : List PD} (h1 : toPD x = some (.list l)) : strs2 x y = none := by
  unfold strs2
  split
  · cases h1
  · rfl
theorem oNe_ints {x y : O} {l r : List Int} (h1 : toPD x = some (.list (l.map .int))) (h2 : toPD y = some (.list (r.map .int))) : oNe x y = some (.fz (.bool (!decide (l = r)))) := by
  unfold oNe oNeD
  rw [strs2_none (r := []) h1, h1, h2]
  simp [shaped_ints, eqv_ints]
@[simp] theorem oNe_s {a b : Str} : oNe (.fz (.str a)) (.fz (.str b)) = some (.fz (.bool (!decide (a = b)))) := rfl
@[simp] theorem oEq_s {a b : Str} : oEq (.fz (.str a)) (.fz (.str b)) = some (.fz (.bool (decide (a = b)))) := rfl
theorem up_mod {e b : Int} : up e b % b = 0 := Int.mul_emod_left _ _
theorem up_is {e b : Int} (hb : 0 < b) : e ≤ up e b ∧ up e b < e + b := by
  have h1 := Int.emod_nonneg (e + b - 1) (by omega : b ≠ 0)
  have h2 := Int.emod_lt_of_pos (e + b - 1) hb
  have h3 := Int.ediv_mul_add_emod (e + b - 1) b
  unfold up
  omega
theorem rngD_at {n i : Nat} {x : PD} (h : (rngD 0 n)[i]? = some x) : x = .int (i : Int) ∧ i < n := by
  unfold rngD at h
  rw [List.getElem?_map] at h
  obtain ⟨j, e1, e2⟩ := Option.map_eq_some_iff.mp h
  have hi : i < n := by
    rcases Nat.lt_or_ge i n with z | z
    · exact z
    · rw [List.getElem?_eq_none (by simpa using z)] at e1; cases e1
  rw [List.getElem?_range hi] at e1
  cases e1
  exact ⟨by rw [← e2]; simp, hi⟩
theorem big62_s {i : Int} (h0 : -1000000 ≤ i) (h1 : i ≤ 1000000) : big62 i = true := big62_of (by omega) (by omega)
theorem up_uniq {n b p : Int} (hb : 0 < b) (h1 : n ≤ p) (h2 : p < n + b) (h3 : p % b = 0) : p = up n b := by
  obtain ⟨u1, u2⟩ := up_is (e := n) hb
  have hm : (up n b - p) % b = 0 := by rw [Int.sub_emod, up_mod, h3]; simp
  have hm2 : (p - up n b) % b = 0 := by rw [Int.sub_emod, up_mod, h3]; simp
  rcases Int.le_total p (up n b) with z | z
  · rw [Int.emod_eq_of_lt (by omega) (by omega)] at hm
    omega
  · rw [Int.emod_eq_of_lt (by omega) (by omega)] at hm2
    omega
end FM
namespace FM
open PySem PySem.Spec L2 PyProof.Rows
/-! ### loops item by item, comparisons, pairs and places -/
section
variable {ρ : List O} {nx bk ct : List O → Prop} {rt : O → List O → Prop} {a : MS} {f : QG} {r : List O → Option (List O)}
@[simp] theorem wS_forNil : wS (forGo f a [] ρ) nx rt bk ct = nx ρ := rfl
theorem wS_forCons {x : PD} {xs : List PD} : wS (forGo f a (x :: xs) ρ) nx rt bk ct = ∃ ρ1, f x ρ = some ρ1 ∧ wS (a ρ1) (fun ρ2 => wS (forGo f a xs ρ2) nx rt bk ct) rt nx (fun ρ2 => wS (forGo f a xs ρ2) nx rt bk ct) := by
  have e : forGo f a (x :: xs) ρ = match f x ρ with
    | none => .bad
    | some ρ1 => match a ρ1 with
      | .next ρ2 => forGo f a xs ρ2
      | .cont ρ2 => forGo f a xs ρ2
      | .brk ρ2 => .next ρ2
      | .ret o ρ2 => .ret o ρ2
      | .exc x ρ2 => .exc x ρ2
      | .bad => .bad := rfl
  rw [e]
  cases e1 : f x ρ with
  | none => simp [wS]
  | some ρ1 =>
    cases e2 : a ρ1 <;> simp [wS, e2]
theorem oNe_self {d : PD} (h : SeqAt.shaped d = true) : oNe (.fz d) (.fz d) = some (.fz (.bool false)) := by
  have hc : d.canLay0 = true := by unfold SeqAt.shaped at h; simp at h; exact h.1
  unfold oNe
  cases e : strs2 (.fz d) (.fz d) with
  | some p =>
    obtain ⟨e1, e2⟩ := strs2_eq e
    have e3 := e1.symm.trans e2
    have e4 : p.1 = p.2 := by
      injection e3 with e3
      injection e3
    simp [e4]
  | none => simp [oNeD, h, SeqAt.eqv_refl d hc]
theorem shaped_nil : SeqAt.shaped (.list []) = true := by simp [SeqAt.shaped, PyData.canLay0, PyData.canLayAll0, PyData.depth, PyData.depthAll]
theorem oEq_nil {ds : List PD} (h : SeqAt.shaped (.list ds) = true) : oEq (.fz (.list ds)) (.fz (.list [])) = some (.fz (.bool ds.isEmpty)) := by
  unfold oEq
  rw [strs2_none (l := ds) (r := []) rfl]
  cases ds <;> simp [oEqD, h, shaped_nil, PyData.eqv, PyData.eqvAll]
end
theorem boolsD_fun {α : Type} {g : α → Bool} (xs : List α) : boolsD (xs.map fun x => .bool (g x)) = some (xs.map g) := by
  have := boolsD_map (xs.map g)
  rwa [List.map_map] at this
theorem oAny_map {α : Type} {g : α → Bool} {xs : List α} : oAny [.fz (.list (xs.map fun x => .bool (g x)))] = some (.fz (.bool (xs.any g))) := by
  rw [oAny_l, boolsD_fun, Option.map_some, List.any_map]
  rfl
theorem at_pl {pl : List Int} {t : Nat} (h : t < pl.length) : atI (pl.map PyData.int) (t : Int) = some (.int (pl.getD t 0)) := by
  rw [atI_nn (by omega), List.getElem?_map]
  simp [h]
def lieO (p s p' s' : Int) : Bool := decide (p < p' + s') && decide (p' < p + s)
@[simp] theorem rngD_len {lo : Int} {n : Nat} : (rngD lo n).length = n := by simp [rngD]
end FM
namespace FM
open PySem PySem.Spec L2 PyProof.Rows
open PySem.W (dataLe EachIs AllAlike Sortable alike)
/-! ### sorted of data of one kind -/
def rSortedX (K : Frag) : List V → Hp → VK → Prop := fun vs H Q => ∃ (a : Addr) (zs : List (V × PD)), vs = [V.ref a] ∧ SqL K H a (zs.map Prod.fst) ∧ (∀ z ∈ zs, Dp K H z.1 z.2) ∧ AllAlike (zs.map Prod.snd) ∧ Sortable (zs.map Prod.snd) ∧ (∀ z ∈ zs, z.2.depth ≤ 40) ∧
  ∀ p, H p = none → Q (.ref p) (upd H p (.lst ((zs.mergeSort (dataLe false Prod.snd)).map Prod.fst)))
theorem each_vals : ∀ {zs : List (V × PD)} {us : List Value}, Vals (zs.map Prod.fst) us → EachIs (fun v (b : V × PD) => RelV b.1 v) us zs
  | [], _, r => by
    cases r
    exact .nil
  | z :: zs, _, r => by
    cases r with
    | cons h t => exact .cons h (each_vals t)
theorem vals_each : ∀ {zs : List (V × PD)} {us : List Value}, EachIs (fun v (b : V × PD) => RelV b.1 v) us zs → Vals (zs.map Prod.fst) us
  | [], _, r => by
    cases r
    exact .nil
  | z :: zs, _, r => by
    cases r with
    | cons h t => exact .cons h (vals_each t)
theorem each_in {R : Value → V × PD → Prop} : ∀ {zs : List (V × PD)} {us : List Value}, EachIs R us zs → EachIs (fun v b => R v b ∧ b ∈ zs) us zs
  | [], _, r => by
    cases r
    exact .nil
  | z :: zs, _, r => by
    cases r with
    | cons h t => exact .cons ⟨h, List.mem_cons_self⟩ ((each_in t).mono fun a b q => ⟨q.1, List.mem_cons_of_mem _ q.2⟩)
theorem cr_sortedX {X : Cx} (hu : X.A.units + 64 < cLine) : CallR X (.builtin "sorted") (rSortedX X.K) := by
  intro pins s σ H vs us Q I r h
  obtain ⟨a, zs, rfl, hs, hd, hal, hk, hdp, q⟩ := h
  obtain ⟨its, rv, hl, hz⟩ := I.list hs
  rw [Vals.ref1 r]
  have e := each_vals rv
  have er : EachIs (fun v (b : V × PD) => ∃ as, Reads s.heap v b.2 as) its zs := (each_in e).mono fun v b ⟨h1, h2⟩ => Dp.reads I b.2 b.1 v (hd b h2) h1
  have hL : zs.length ≤ sizeLine := by rw [List.length_map] at hz; exact hz
  refine PySem.W.sorted_data (enc := Prod.snd) hl.isList e er hal hk hL (fun b m => by have := hdp b m; omega) fun out ho hr => ?_
  have rv2 := vals_each hr
  obtain ⟨ep, he⟩ := PyProof.Rows.sortedAll_at s.heap its out.toArray
  have hlen : ((zs.mergeSort (dataLe false Prod.snd)).map Prod.fst).length ≤ sizeLine := by
    rw [List.length_map, List.length_mergeSort]
    exact hL
  exact ⟨.ref _, upd H (s.heap.objs.size + 1) (.lst ((zs.mergeSort (dataLe false Prod.snd)).map Prod.fst)), I.laid (t' := s.toks) (fun _ _ => PyProof.Rows.sortedAll_old) (Nat.le_succ _) ⟨hlen, out, ep, rv2, he⟩, rfl, q _ (I.hok.fresh (Nat.le_succ _))⟩
def rSortedU (K : Frag) : List V → Hp → VK → Prop := fun vs H Q => rSortedI K vs H Q ∨ rSortedX K vs H Q
theorem cr_sortedU {X : Cx} (hu : X.A.units + 64 < cLine) : CallR X (.builtin "sorted") (rSortedU X.K) := by
  intro pins s σ H vs us Q I r h
  rcases h with h | h
  · exact cr_sortedI pins s σ H vs us Q I r h
  · exact cr_sortedX hu pins s σ H vs us Q I r h
def tupC : PD → Bool
  | .tuple (_ :: _) => true
  | _ => false
def notNT : PD → Bool
  | .none => false
  | .tuple _ => false
  | _ => true
def sortC (ds : List PD) : Bool := ds.all (fun d => ds.all fun e => alike d e) && (ds.all tupC || ds.all notNT) && ds.all (fun d => decide (d.depth ≤ 40) && d.canLay0)
def sortD (ds : List PD) : List PD := ds.mergeSort (dataLe false id)
def oSortU : List O → Option O
  | [x] => match seqL x with
    | some ds => match intsD ds with
      | some ns => some (.lst ((sortI ns).map .int))
      | none => if sortC ds then some (.lst (sortD ds)) else none
    | none => none
  | _ => none
theorem reps_mem {K : Frag} {F : Hp} : ∀ {l : List (V × PD)}, (∀ z ∈ l, Rep K F z.1 z.2) → Reps K F (l.map Prod.fst) (l.map Prod.snd)
  | [], _ => .nil
  | z :: l, h => .cons (h z List.mem_cons_self) (reps_mem fun y m => h y (List.mem_cons_of_mem _ m))
theorem zip_reps {K : Frag} {F : Hp} : ∀ {vs : List V} {ds : List PD}, Reps K F vs ds → (∀ z ∈ vs.zip ds, Rep K F z.1 z.2) ∧ (vs.zip ds).map Prod.fst = vs ∧ (vs.zip ds).map Prod.snd = ds
  | _, _, .nil => ⟨fun z m => by simp at m, rfl, rfl⟩
  | v :: vs, d :: ds, .cons h r => by
    obtain ⟨h1, h2, h3⟩ := zip_reps r
    refine ⟨fun z m => ?_, by simp [h2], by simp [h3]⟩
    rcases List.mem_cons.mp (by simpa using m) with e | m
    · rw [e]; exact h
    · exact h1 z m
theorem cn_sortU {k : Kc} : CbN k (rSortedU k.K) oSortU := by
  intro F H S xs os o Q f off th ws e h
  unfold oSortU at e
  split at e
  · cases ws with
    | cons w ws =>
      cases ws
      split at e
      · rename_i ds es
        obtain ⟨a, vs, rfl, g1, g2⟩ := w.seqL f es
        split at e
        · rename_i ns en
          cases e
          have e3 := intsD_eq en
          subst e3
          rw [reps_ints g2] at g1
          refine .inl ⟨a, ns, rfl, g1, fun ns' p hp hs hn => ?_⟩
          rw [sorted_unique (hp.trans (sortI_perm ns).symm) hs (sortI_sorted ns)]
          exact own_list f (ints_reps (sortI ns)) h p hn
        · split at e
          · rename_i hc
            cases e
            obtain ⟨z1, z2, z3⟩ := zip_reps g2
            unfold sortC at hc
            simp only [Bool.and_eq_true] at hc
            obtain ⟨⟨c1, c2⟩, c3⟩ := hc
            have hm : ∀ z ∈ vs.zip ds, z.2 ∈ ds := fun z m => by rw [← z3]; exact List.mem_map.mpr ⟨z, m, rfl⟩
            have c3' : ∀ d ∈ ds, d.depth ≤ 40 ∧ d.canLay0 = true := fun d m => by
              have := List.all_eq_true.mp c3 d m
              simp at this
              exact this
            have srt : ((vs.zip ds).mergeSort (dataLe false Prod.snd)).map Prod.snd = sortD ds := by
              have e1 := PySem.W.sort_maps (r := dataLe false Prod.snd) (s := dataLe false id) (Prod.snd : V × PD → PD) (l := vs.zip ds) (fun _ _ _ _ => rfl)
              rw [e1, z3]
              rfl
            refine .inr ⟨a, vs.zip ds, rfl, by rw [z2]; exact g1, fun z m => ((z1 z m).le f).dp (c3' _ (hm z m)).2, ?_, ?_, fun z m => (c3' _ (hm z m)).1, fun p hn => ?_⟩
            · rw [z3]
              intro d m d' m'
              exact List.all_eq_true.mp (List.all_eq_true.mp c1 d m) d' m'
            · rw [z3]
              rcases Bool.or_eq_true_iff.mp c2 with c2 | c2
              · refine .inl fun d m => ?_
                have := List.all_eq_true.mp c2 d m
                unfold tupC at this
                split at this
                · exact ⟨_, _, rfl⟩
                · cases this
              · refine .inr fun d m => ?_
                have := List.all_eq_true.mp c2 d m
                cases d with
                | none => cases this
                | tuple ds => cases this
                | _ => exact ⟨by simp, by simp⟩
            · have rr := reps_mem (K := k.K) (F := F) (l := (vs.zip ds).mergeSort (dataLe false Prod.snd)) fun z m => z1 z (List.mem_mergeSort.mp m)
              rw [srt] at rr
              exact own_list f rr h p hn
          · cases e
      · cases e
  · cases e
end FM
namespace FM
open PySem PySem.Spec L2 PyProof.Rows
/-! ### range(i, j, c) -/
end FM
namespace FM
open PySem PySem.Spec L2 PyProof.Rows
/-! ### d[k] = v, and [..] * n as a list of one's own -/
def putD {κ : Type} [DecidableEq κ] {α : Type} (kvs : List (κ × α)) (k : κ) (v : α) : List (κ × α) :=
  if (kvs.any fun kv => decide (kv.1 = k)) then kvs.map (fun kv => if kv.1 = k then (kv.1, v) else kv) else kvs ++ [(k, v)]
theorem RepK.any {K : Frag} {F : Hp} (x : Key) : ∀ {vs : List (Key × V)} {ds : List (Key × PD)}, RepK K F vs ds → (vs.any fun kv => decide (kv.1 = x)) = (ds.any fun kv => decide (kv.1 = x))
  | _, _, .nil => rfl
  | _, _, .cons h r => by simp only [List.any_cons, RepK.any x r]
theorem RepK.len' {K : Frag} {F : Hp} : ∀ {vs : List (Key × V)} {ds : List (Key × PD)}, RepK K F vs ds → vs.length = ds.length
  | _, _, .nil => rfl
  | _, _, .cons h r => congrArg (· + 1) (RepK.len' r)
theorem RepK.maps {K : Frag} {F : Hp} {x : Key} {v : V} {d : PD} (h0 : Rep K F v d) : ∀ {vs : List (Key × V)} {ds : List (Key × PD)}, RepK K F vs ds → RepK K F (vs.map fun kv => if kv.1 = x then (kv.1, v) else kv) (ds.map fun kv => if kv.1 = x then (kv.1, d) else kv)
  | _, _, .nil => .nil
  | (k, w) :: _, (_, e) :: _, .cons h r => by
    have ih := RepK.maps (x := x) h0 r
    simp only [List.map_cons]
    by_cases c : k = x
    · rw [if_pos c, if_pos c]; exact .cons h0 ih
    · rw [if_neg c, if_neg c]; exact .cons h ih
theorem RepK.snoc {K : Frag} {F : Hp} {x : Key} {v : V} {d : PD} (h0 : Rep K F v d) : ∀ {vs : List (Key × V)} {ds : List (Key × PD)}, RepK K F vs ds → RepK K F (vs ++ [(x, v)]) (ds ++ [(x, d)])
  | _, _, .nil => .cons h0 .nil
  | _, _, .cons h r => .cons h (RepK.snoc h0 r)
theorem RepK.put {K : Frag} {F : Hp} {x : Key} {v : V} {d : PD} {vs : List (Key × V)} {ds : List (Key × PD)} (r : RepK K F vs ds) (h0 : Rep K F v d) : RepK K F (putK vs x v) (putD ds x d) := by
  unfold putK putD
  rw [r.any x]
  split
  · exact RepK.maps h0 r
  · exact RepK.snoc h0 r
section
variable {k : Kc} {E : XK}
theorem StW.dicAt {P : List (Nat × V)} {e : Ent} {σ : L2.St} {ρ : List O} {vs : List V} {os : List O} {F H : Hp} {S1 S2 : List Addr} {i : Nat} {ds : List (Key × PD)} (s : StW k P e σ ρ vs os F H S1 S2) (e0 : qVar i ρ = some (.dic ds)) :
    ∃ a ws, σ[i]? = some (some (.ref a)) ∧ H a = some (.dK ws) ∧ RepK k.K F ws ds ∧ ∀ ws' ds', RepK k.K F ws' ds' → ∃ U, StW k P e σ (ρ.set i (.dic ds')) vs os F (upd H a (.dK ws')) U S2 := by
  obtain ⟨env, tmp, fr, pin⟩ := s
  obtain ⟨g1, g2⟩ := qVar_some e0
  obtain ⟨v, T, R, a1, a2, a3, a4⟩ := env.take g1 g2
  cases a2 with
  | @dic a ws _ h r =>
    have frz : Fr e F H (a :: (R ++ S2)) := Sbp.fr fr (.of_count fun b => by
      have c2 := a4.count_eq b
      simp only [List.count_append, List.count_cons, List.count_nil] at c2 ⊢
      omega)
    have ha : H a = some (.dK ws) := by
      rcases h with h | ⟨ob, h⟩
      · exact h
      · exact (frz.nofz a List.mem_cons_self ob _ h).elim
    refine ⟨a, ws, a1, ha, r, fun ws' ds' r' => ?_⟩
    have nd := List.nodup_cons.mp frz.nd
    have keep : ∀ U : List Addr, (∀ b ∈ U, b ∈ R ++ S2) → At U H (upd H a (.dK ws')) := fun U m b mb u z => by
      rw [upd_ne (fun q => nd.1 (by rw [← q]; exact m b mb))]
      exact z
    have fw := frz.write (a := a) (o := .dK ws') List.mem_cons_self (fun _ _ z => by cases z)
    have env3 := a3.mono (Same.refl F) (keep R fun b m => List.mem_append_left _ m)
    have tmp3 := tmp.mono (Same.refl F) (keep S2 fun b m => List.mem_append_right _ m)
    obtain ⟨U, mU, q⟩ := env3.put (i := i) a1 (Own.dic (k := k) (F := F) (.inl upd_same) r')
    rw [List.set_set] at q
    exact ⟨U, q, tmp3, Sbp.fr fw (.of_count fun b => by
      have := mU.count b
      simp only [List.count_append, List.count_cons, List.count_nil] at this ⊢
      omega), pin⟩
def rSetU : TSet := fun o i v H Q => rSetL o i v H Q ∨ rSetD o i v H Q
theorem set_U {X : Cx} (hu : X.A.units + 1 < cLine) : PSet X rSetU := by
  intro pins s σ H o i v ov iv u Q I ro ri rv h
  rcases h with h | h
  · exact set_list pins s σ H o i v ov iv u Q I ro ri rv h
  · exact set_dict hu pins s σ H o i v ov iv u Q I ro ri rv h
def sSetU (s : Nat) (qi : QE) (m : M O) : MS := fun ρ => match m ρ with
  | .ok (.fz d) ρ1 => match qVar s ρ1 with
    | some (.lst ds) => match qi ρ1 with
      | some (.fz i) => match fSetI ds i d with
        | some ds' => .next (ρ1.set s (.lst ds'))
        | none => .bad
      | _ => .bad
    | some (.dic kvs) => match qi ρ1 with
      | some i => match keyO i with
        | some x => if kvs.length < sizeLine then .next (ρ1.set s (.dic (putD kvs x d))) else .bad
        | none => .bad
      | none => .bad
    | _ => .bad
  | .ok _ _ => .bad
  | .exc x ρ1 => .exc x ρ1
  | .bad => .bad
theorem tsm_setU {s : Nat} {te ti : TE} {m : M O} {qi : QE} (h : TEm k E te m) (hi : TEv k ti qi) : TSm k E [] (tAsg te (gSub (tVar s) ti rSetU)) (sSetU s qi m) := by
  intro P e σ ρ vs os H D o st g
  refine h P e σ ρ vs os H _ st ?_
  unfold sSetU at g
  cases e1 : m ρ with
  | exc x ρ1 => rw [e1] at g; exact g.exc
  | bad => rw [e1] at g; exact g
  | ok z ρ1 =>
    rw [e1] at g
    intro v H1 s1
    cases z with
    | fz d =>
      simp only at g
      obtain ⟨F, S1, S2, s1⟩ := s1
      split at g
      · rename_i ds e2
        split at g
        · rename_i i e3
          obtain ⟨a, ws, a1, a2, a3, a4⟩ := s1.lstAt e2
          refine ⟨.ref a, a1, hi F H1 σ ρ1 S1 _ _ s1.qs e3 fun w F2 H2 x2 w2 => ?_⟩
          have s2 := s1.xt x2
          obtain ⟨a', ws2, b1, b2, b3, b4⟩ := s2.lstAt e2
          rw [a1] at b1
          cases b1
          have rd := s2.top.1
          cases e4 : fSetI ds i d with
          | none => rw [e4] at g; exact g.elim
          | some ds' =>
            rw [e4] at g
            unfold fSetI at e4
            split at e4
            · rename_i j
              obtain ⟨n, e5, e6⟩ := Option.map_eq_some_iff.mp e4
              subst e6
              have ew := w2.int
              subst ew
              refine .inl ⟨a, ws2, j, n, rfl, rfl, b2, by rw [b3.length]; exact e5, ?_⟩
              obtain ⟨U, s5⟩ := b4 _ _ (b3.set rd n)
              obtain ⟨_, s6⟩ := s5.top
              exact g σ _ ⟨F2, U, S2, s6⟩
            · cases e4
        · exact g.elim
      · rename_i kvs e2
        split at g
        · rename_i i e3
          split at g
          · rename_i x e4
            split at g
            · rename_i hz
              obtain ⟨a, ws, a1, a2, a3, a4⟩ := s1.dicAt e2
              refine ⟨.ref a, a1, hi F H1 σ ρ1 S1 _ _ s1.qs e3 fun w F2 H2 x2 w2 => ?_⟩
              have s2 := s1.xt x2
              obtain ⟨a', ws2, b1, b2, b3, b4⟩ := s2.dicAt e2
              rw [a1] at b1
              cases b1
              have rd := s2.top.1
              have ew := w2.keyO e4
              subst ew
              refine .inr ⟨a, _, rfl, DPut.k b2 (by rw [b3.len']; exact hz), ?_⟩
              obtain ⟨U, s5⟩ := b4 _ _ (b3.put rd)
              obtain ⟨_, s6⟩ := s5.top
              exact g σ _ ⟨F2, U, S2, s6⟩
            · exact g.elim
          · exact g.elim
        · exact g.elim
      · exact g.elim
    | _ => exact g.elim
theorem Fresh.back {F F1 F2 H H1 H2 : Hp} {T : List Addr} (f : Fresh F2 H1 H2 T) (x : Xt F H F1 H1) : Fresh F2 H H2 T := ⟨f.nd, fun a m => none_back x.ex (f.new a m), f.off, f.nofz⟩
end
section
variable {ρ : List O} {nx bk ct : List O → Prop} {rt : O → List O → Prop} {m : M O} {qi : QE}
@[simp] theorem wS_setU {s : Nat} : wS (sSetU s qi m ρ) nx rt bk ct = wM (m ρ) fun o ρ1 => ∃ d, o = .fz d ∧ match qVar s ρ1 with
    | some (.lst ds) => ∃ i, qi ρ1 = some (.fz i) ∧ ∃ ds', fSetI ds i d = some ds' ∧ nx (ρ1.set s (.lst ds'))
    | some (.dic kvs) => ∃ i, qi ρ1 = some i ∧ ∃ x, keyO i = some x ∧ kvs.length < sizeLine ∧ nx (ρ1.set s (.dic (putD kvs x d)))
    | _ => False := by
  unfold sSetU
  cases e : m ρ with
  | ok o ρ1 =>
    cases o with
    | fz d =>
      simp only [wM_ok]
      cases e2 : qVar s ρ1 with
      | none => simp [wS, e2]
      | some z =>
        cases z with
        | lst ds =>
          cases e3 : qi ρ1 with
          | none => simp [wS, e2, e3]
          | some y =>
            cases y with
            | fz i => cases e4 : fSetI ds i d <;> simp [wS, e2, e3, e4]
            | _ => simp [wS, e2, e3]
        | dic kvs =>
          cases e3 : qi ρ1 with
          | none => simp [wS, e2, e3]
          | some y =>
            cases e4 : keyO y with
            | none => simp [wS, e2, e3, e4]
            | some x =>
              by_cases hz : kvs.length < sizeLine
              · simp [e2, e3, e4, hz]
                rfl
              · simp [wS, e2, e3, e4, hz]
        | _ => simp [wS, e2]
    | _ => simp [wS]
  | _ => rfl
@[simp] theorem keyO_i {i : Int} : keyO (.fz (.int i)) = some (.inl i) := rfl
@[simp] theorem keyO_s {x : Str} : keyO (.fz (.str x)) = some (.inr x) := rfl
end
end FM
namespace FM
open PySem PySem.Spec L2 PyProof.Rows
open PySem.W (dataLe alike dataLt)
/-! ### orders, pairs, dicts of numbers, lists built item by item -/
theorem enumGo_at {ds : List PD} {n i : Nat} {x : PD} (h : (enumGo n ds)[i]? = some x) : ∃ d, ds[i]? = some d ∧ x = pairD (.int ((n + i : Nat) : Int)) d := by
  obtain ⟨hi, rfl⟩ := List.getElem?_eq_some_iff.mp h
  obtain ⟨h1, h2⟩ := enum_at hi
  exact ⟨ds[i], List.getElem?_eq_getElem h1, h2⟩
@[simp] theorem qEnum_eq {r : List O → Option (List O)} {ρ : List O} : qEnum r ρ = match r ρ with
    | some [.fz (.list ds)] => some (enumGo 0 ds)
    | _ => none := rfl
theorem lk_cons {α : Type} {k x : Key} {v : α} {kvs : List (Key × α)} : lk ((k, v) :: kvs) x = if k = x then some v else lk kvs x := by
  unfold lk
  rw [List.find?_cons]
  by_cases h : k = x <;> simp [h]
theorem putD_new {α : Type} {kvs : List (Key × α)} {k : Key} {v : α} (h : ∀ p ∈ kvs, p.1 ≠ k) : putD kvs k v = kvs ++ [(k, v)] := by
  unfold putD
  rw [if_neg]
  intro c
  obtain ⟨p, m, e⟩ := List.any_eq_true.mp c
  exact h p m (by simpa using e)
theorem oIx_dict {kvs : List (Key × PD)} {i : Int} (hn : kvs ≠ []) : oIx (.fz (.dict (kvs.map kp))) (.fz (.int i)) = (lk kvs (.inl i)).map .fz := by
  have e : dicK (.fz (.dict (kvs.map kp))) = some kvs := by
    cases kvs with
    | nil => exact (hn rfl).elim
    | cons p r => exact unkp_kp (p :: r)
  have e2 : oLook (.fz (.dict (kvs.map kp))) (.fz (.int i)) = some (lk kvs (.inl i)) := by
    unfold oLook
    rw [e]
    rfl
  show (match oLook (.fz (.dict (kvs.map kp))) (.fz (.int i)) with | some (some d) => some (O.fz d) | _ => none) = _
  rw [e2]
  cases lk kvs (.inl i) <;> rfl
theorem sum_perm {α : Type} {g : α → Int} {xs ys : List α} (p : xs.Perm ys) : (xs.map g).sum = (ys.map g).sum := by
  induction p with
  | nil => rfl
  | cons x _ ih => simp [ih]
  | swap x y l => simp; omega
  | trans _ _ h1 h2 => rw [h1, h2]
/-- whether two things are in a pair -/
def inP (ps : List (Nat × Nat)) (t u : Nat) : Bool := decide ((min t u, max t u) ∈ ps)
theorem nodup_at {od : List Nat} {i t : Nat} (hn : od.Nodup) (e : od[i]? = some t) : t ∉ od.take i ∧ od = od.take i ++ t :: od.drop (i + 1) := by
  obtain ⟨hi, rfl⟩ := List.getElem?_eq_some_iff.mp e
  have e2 : od = od.take i ++ od[i] :: od.drop (i + 1) := by rw [← List.drop_eq_getElem_cons hi, List.take_append_drop]
  refine ⟨fun m => ?_, e2⟩
  rw [e2] at hn
  have h3 := (List.nodup_append.mp hn).2.2
  exact h3 _ m _ List.mem_cons_self rfl
theorem getD_set {l : List Int} {t u : Nat} {v : Int} (h : t < l.length) : (l.set t v).getD u 0 = if t = u then v else l.getD u 0 := by
  rw [List.getD_eq_getElem?_getD, List.getD_eq_getElem?_getD, List.getElem?_set]
  by_cases e : t = u
  · subst e
    simp [h]
  · simp [e]
/-! the least place -/
def encP (x : Int × (Int × Int)) : PD := .tuple [.int x.1, thD x.2]
def sortP (xs : List (Int × (Int × Int))) : List (Int × (Int × Int)) := xs.mergeSort (dataLe false encP)
theorem sortP_perm (xs : List (Int × (Int × Int))) : (sortP xs).Perm xs := List.mergeSort_perm _ _
theorem sortD_encP (xs : List (Int × (Int × Int))) : sortD (xs.map encP) = (sortP xs).map encP := (PySem.W.sort_maps (r := dataLe false encP) (s := dataLe false id) encP fun _ _ _ _ => rfl).symm
theorem sortC_encP (xs : List (Int × (Int × Int))) : sortC (xs.map encP) = true := by
  unfold sortC
  simp only [Bool.and_eq_true, Bool.or_eq_true, List.all_eq_true, List.mem_map, forall_exists_index, and_imp, forall_apply_eq_imp_iff₂, decide_eq_true_eq]
  refine ⟨⟨fun x _ y _ => ?_, .inl fun x _ => rfl⟩, fun x _ => ⟨?_, ?_⟩⟩
  · simp [encP, thD, alike, PySem.W.alikeAll]
  · simp [encP, thD, PyData.depth, PyData.depthAll]
  · simp [encP, thD, PyData.canLay0, PyData.canLayAll0]
theorem intsD_encP {x : Int × (Int × Int)} {xs : List (Int × (Int × Int))} : intsD ((x :: xs).map encP) = none := rfl
theorem oSortU_encP (xs : List (Int × (Int × Int))) : oSortU [.fz (.list (xs.map encP))] = some (.lst ((sortP xs).map encP)) := by
  cases xs with
  | nil => simp [oSortU, seqL, sortI, sortP]
  | cons x xs =>
    show (match intsD ((x :: xs).map encP) with | some ns => some (O.lst ((sortI ns).map .int)) | none => if sortC ((x :: xs).map encP) then some (.lst (sortD ((x :: xs).map encP))) else none) = _
    rw [intsD_encP]
    simp only [sortC_encP, sortD_encP, if_true]
def leastGo (s b : Int) : Int → List (Int × (Int × Int)) → Int
  | f, [] => f
  | f, x :: r => leastGo s b (if lieO f s x.1 x.2.1 then up (x.1 + x.2.1) b else f) r
def leastG (th : Int × Int) (xs : List (Int × (Int × Int))) : Int := leastGo th.1 th.2 0 (sortP xs)
theorem up_mono {n m b : Int} (hb : 0 < b) (h : n ≤ m) : up n b ≤ up m b := by
  unfold up
  exact Int.mul_le_mul_of_nonneg_right (Int.ediv_le_ediv hb (by omega)) (by omega)
theorem up_add {n f b : Int} (hb : 0 < b) (h : f % b = 0) : up (f + n) b = f + up n b := by
  obtain ⟨u1, u2⟩ := up_is (e := n) hb
  exact (up_uniq hb (by omega) (by omega) (by rw [Int.add_emod, h, up_mod]; rfl)).symm
theorem leastGo_le {s b : Int} (hs : 1 ≤ s) (hb : 1 ≤ b) : ∀ {ys : List (Int × (Int × Int))} {f : Int}, (∀ y ∈ ys, 1 ≤ y.2.1) → f % b = 0 → leastGo s b f ys ≤ f + (ys.map fun y => up (y.2.1 + s - 1) b).sum
  | [], f, _, _ => by simp [leastGo]
  | y :: ys, f, h, hf => by
    have hy := h y List.mem_cons_self
    have ht : ∀ z ∈ ys, 1 ≤ z.2.1 := fun z m => h z (List.mem_cons_of_mem _ m)
    obtain ⟨u1, u2⟩ := up_is (e := y.2.1 + s - 1) (b := b) (by omega)
    rw [List.map_cons, List.sum_cons]
    show leastGo s b (if lieO f s y.1 y.2.1 then up (y.1 + y.2.1) b else f) ys ≤ _
    by_cases c : lieO f s y.1 y.2.1 = true
    · rw [if_pos c]
      have ih := leastGo_le hs hb (f := up (y.1 + y.2.1) b) ht up_mod
      simp only [lieO, Bool.and_eq_true, decide_eq_true_eq] at c
      have h1 := up_mono (b := b) (n := y.1 + y.2.1) (m := f + (y.2.1 + s - 1)) (by omega) (by omega)
      rw [up_add (by omega) hf] at h1
      omega
    · rw [if_neg c]
      have ih := leastGo_le hs hb (f := f) ht hf
      omega
theorem leastG_le {th : Int × Int} {xs : List (Int × (Int × Int))} (hs : 1 ≤ th.1) (hb : 1 ≤ th.2) (h : ∀ y ∈ xs, 1 ≤ y.2.1) : leastG th xs ≤ (xs.map fun y => up (y.2.1 + th.1 - 1) th.2).sum := by
  have p := sortP_perm xs
  have := leastGo_le (s := th.1) (b := th.2) hs hb (ys := sortP xs) (f := 0) (fun y m => h y (p.mem_iff.mp m)) (by simp)
  rw [sum_perm p] at this
  unfold leastG
  omega
end FM
namespace FM
open PySem PySem.Spec L2 PyProof.Rows
theorem natD_filter {p : Nat → Bool} {q : PD → Bool} (h : ∀ u, q (natD u) = p u) (l : List Nat) : (l.map natD).filter q = (l.filter p).map natD := by
  rw [List.filter_map]
  congr 1
  apply List.filter_congr
  intro u _
  exact h u
def natP (p : Nat → Bool) : PD → Bool
  | .int i => p i.toNat
  | _ => false
theorem natP_natD {p : Nat → Bool} (u : Nat) : natP p (natD u) = p u := by simp [natP, natD]
theorem fSetI_n {ds : List Int} {t : Nat} {v : Int} (h : t < ds.length) : fSetI (ds.map .int) (.int (t : Int)) (.int v) = some ((ds.set t v).map .int) := by
  have e : ixN (ds.map PyData.int).length (t : Int) = some t := by
    unfold ixN
    rw [if_pos (by omega), if_pos (by simp; omega)]
    simp
  rw [fSetI_i, e, Option.map_some, List.map_set]
end FM
namespace FM
open PySem PySem.Spec L2 PyProof.Rows
/-! ### comprehensions over a dict of one's own (locked meanwhile) -/
section
variable {H : Hp} {d : Addr} {ws : List (Key × V)} {od : Obj}
theorem rd_lock (hd : H d = some (.dK ws)) {a : Addr} {u : HO} (h : Rd H a u) : Rd (upd H d (.frz od (.dK ws))) a u := by
  by_cases e : a = d
  · subst e
    rcases h with h | ⟨o, h⟩
    · rw [hd] at h
      cases h
      exact .inr ⟨od, upd_same⟩
    · rw [hd] at h
      cases h
  · rcases h with h | ⟨o, h⟩
    · exact .inl (by rw [upd_ne e]; exact h)
    · exact .inr ⟨o, by rw [upd_ne e]; exact h⟩
mutual
theorem Own.lock {k : Kc} {F : Hp} (hd : H d = some (.dK ws)) : ∀ {v : V} {o : O} {S : List Addr}, Own k F H v o S → Own k F (upd H d (.frz od (.dK ws))) v o S
  | _, _, _, .fz h => .fz h
  | _, _, _, .lst h r => .lst (rd_lock hd h) r
  | _, _, _, .dic h r => .dic (rd_lock hd h) r
  | _, _, _, .dit h r => .dit (rd_lock hd h) r
  | _, _, _, .nst h r => .nst (rd_lock hd h) (Owns.lock hd r)
  | _, _, _, .ntp (a := a) h g r => .ntp (by rw [upd_ne (fun e => by rw [e, hd] at h; cases h)]; exact h) g (Owns.lock hd r)
  | _, _, _, .ndc h r => .ndc (rd_lock hd h) (OwnK.lock hd r)
  | _, _, _, .ins (a := a) h r => .ins (by rw [upd_ne (fun e => by rw [e, hd] at h; cases h)]; exact h) (OwnF.lock hd r)
  | _, _, _, .ktp h r => .ktp h r
  | _, _, _, .ctp h n c d r => .ctp h n c d r
  | _, _, _, .exo h c d f => .exo h c d f
  | _, _, _, .cod => .cod
  | _, _, _, .dnk (a := a) h r => .dnk (by rw [upd_ne (fun e => by rw [e, hd] at h; unfold NkO at h; cases h)]; exact h) (OwnN.lock hd r)
  | _, _, _, .dead => .dead
theorem Owns.lock {k : Kc} {F : Hp} (hd : H d = some (.dK ws)) : ∀ {v : List V} {o : List O} {S : List Addr}, Owns k F H v o S → Owns k F (upd H d (.frz od (.dK ws))) v o S
  | _, _, _, .nil => .nil
  | _, _, _, .cons h r => .cons (Own.lock hd h) (Owns.lock hd r)
theorem OwnK.lock {k : Kc} {F : Hp} (hd : H d = some (.dK ws)) : ∀ {v : List (Key × V)} {o : List (Key × O)} {S : List Addr}, OwnK k F H v o S → OwnK k F (upd H d (.frz od (.dK ws))) v o S
  | _, _, _, .nil => .nil
  | _, _, _, .cons h r => .cons (Own.lock hd h) (OwnK.lock hd r)
theorem OwnF.lock {k : Kc} {F : Hp} (hd : H d = some (.dK ws)) : ∀ {v : List (Str × V)} {o : List (Str × O)} {S : List Addr}, OwnF k F H v o S → OwnF k F (upd H d (.frz od (.dK ws))) v o S
  | _, _, _, .nil => .nil
  | _, _, _, .cons h r => .cons (Own.lock hd h) (OwnF.lock hd r)
theorem OwnN.lock {k : Kc} {F : Hp} (hd : H d = some (.dK ws)) : ∀ {v : List (NK × Addr × V)} {o : List (NK × O)} {S : List Addr}, OwnN k F H v o S → OwnN k F (upd H d (.frz od (.dK ws))) v o S
  | _, _, _, .nil => .nil
  | _, _, _, .cons n h r => .cons n (Own.lock hd h) (OwnN.lock hd r)
end
theorem Envs.lock {k : Kc} {F : Hp} (hd : H d = some (.dK ws)) : ∀ {σ : L2.St} {ρ : List O} {S : List Addr}, Envs k F H σ ρ S → Envs k F (upd H d (.frz od (.dK ws))) σ ρ S
  | _, _, _, .nil => .nil
  | _, _, _, .dead r => .dead (Envs.lock hd r)
  | _, _, _, .cons w r => .cons (w.lock hd) (Envs.lock hd r)
end
def keysD (ds : List (Key × PD)) : List PD := ds.map fun p => keyD p.1
def qKeysD (i : Nat) : QI := fun ρ => match qVar i ρ with
  | some (.dic ds) => some (keysD ds)
  | _ => none
theorem RepK.key {K : Frag} {F : Hp} {k : Key} {v : V} : ∀ {vs : List (Key × V)} {ds : List (Key × PD)} {i : Nat}, RepK K F vs ds → vs[i]? = some (k, v) → (keysD ds)[i]? = some (keyD k)
  | (_, _) :: _, (_, _) :: _, 0, .cons h r, e => by
    simp at e
    obtain ⟨rfl, rfl⟩ := e
    rfl
  | _, _, i + 1, .cons h r, e => by
    have := RepK.key (i := i) r (by simpa using e)
    simpa [keysD] using this
theorem rep_key {K : Frag} {F : Hp} : ∀ k : Key, Rep K F (kV k) (keyD k)
  | .inl i => .int i
  | .inr x => .str x
section
variable {k : Kc} {E : XK} {i : Nat}
def wiL (i : Nat) : TI := fun σ H R => (∃ (d : Addr) (o : Obj) (ws : List (Key × V)), σ[i]? = some (some (.ref d)) ∧ H d = some (.frz o (.dK ws))) → iKeys (tVar i) σ H R
theorem tiv_keysL : TIv k (wiL i) (qKeysD i) := by
  rintro F H σ ρ S xs R q e g ⟨d, o, ws, a1, a2⟩
  unfold qKeysD at e
  split at e
  · rename_i ds e0
    cases e
    obtain ⟨g1, g2⟩ := qVar_some e0
    obtain ⟨v, T, U, b1, b2, b3, b4⟩ := q.env.take g1 g2
    rw [a1] at b1
    cases b1
    cases b2 with
    | @dic a ws' _ h r =>
      have ew : ws' = ws := by
        rcases h with h | ⟨o', h⟩
        · rw [a2] at h
          cases h
        · rw [a2] at h
          cases h
          rfl
      subst ew
      have hl : (keysD ds).length = ws'.length := by rw [r.len', keysD, List.length_map]
      refine ⟨_, a1, d, o, rfl, .inl ⟨ws', a2, g _ F H (Xt.refl q.fle) ⟨fun j F2 H2 hj p f => ?_, fun F2 H2 p f => ?_, fun j F2 H2 x H3 hj p f y => ?_⟩⟩⟩
      · exact walk_keys.goes j H2 (by omega) (p.ex d _ a2)
      · rw [hl]
        exact walk_keys.stops H2 (p.ex d _ a2)
      · obtain ⟨rfl, kk, vv, e1, rfl⟩ := walk_keys.yields j H2 x H3 (by omega) (p.ex d _ a2) y
        have e2 := r.key e1
        rw [List.getElem?_eq_getElem hj] at e2
        rw [Option.some.inj e2]
        exact ⟨F2, Xt.refl f, rep_key kk⟩
  · cases e
theorem tem_lck {g : TG} {tt : TT} {te : TE} {vs : List Nat} {f : QG} {c : List O → Option Bool} {qe : QE} {J : List Nat} (hg : TGq k g f J) (hJ : ∀ j ∈ J, j ∈ vs) (ht : TTv k tt c) (he : TEv k te qe) :
    TEm k E (tLockE (tLc (iKeys (tVar i)) g tt te vs)) (mNew (qLc (qKeysD i) f c qe vs)) := by
  intro P e σ ρ us os H Q s r
  obtain ⟨F, S1, S2, s⟩ := s
  unfold mNew at r
  cases e1 : qLc (qKeysD i) f c qe vs ρ with
  | none => rw [e1] at r; exact r.elim
  | some o =>
    rw [e1] at r
    have e0 : ∃ ds, qVar i ρ = some (.dic ds) := by
      unfold qLc qKeysD at e1
      cases z : qVar i ρ with
      | none => rw [z] at e1; cases e1
      | some w =>
        cases w with
        | dic ds => exact ⟨ds, rfl⟩
        | _ => rw [z] at e1; cases e1
    obtain ⟨ds, e0⟩ := e0
    obtain ⟨g1, g2⟩ := qVar_some e0
    obtain ⟨v, T, U, b1, b2, b3, b4⟩ := s.env.take g1 g2
    cases b2 with
    | @dic d ws _ h rr =>
      have md : d ∈ S1 := b4.mem_iff.mp (by simp)
      have md2 : d ∈ S1 ++ S2 := List.mem_append_left _ md
      have hd : H d = some (.dK ws) := by
        rcases h with h | ⟨o', h⟩
        · exact h
        · exact (s.fr.nofz d md2 o' _ h).elim
      have hF : F d = none := s.fr.off d md2
      refine ⟨d, .dK ws, hd, trivial, fun od => ?_⟩
      have qs : Qs k F (upd H d (.frz od (.dK ws))) σ ρ S1 := by
        refine ⟨fun a u z => ?_, s.env.lock hd, s.qs.off⟩
        have ne : a ≠ d := fun w => by rw [w, hF] at z; cases z
        rw [upd_ne ne]
        exact s.fr.fle a u z
      have back : ∀ {a : Addr}, (upd H d (.frz od (.dK ws))) a = none → a ≠ d ∧ H a = none := fun {a} z => by
        have ne : a ≠ d := fun w => by rw [w, upd_same] at z; cases z
        rw [upd_ne ne] at z
        exact ⟨ne, z⟩
      have t := ten_lc (wi := wiL i) tiv_keysL hg hJ ht he F (upd H d (.frz od (.dK ws))) σ ρ S1 o (fun v H2 => H2 d = some (.frz od (.dK ws)) ∧ Q v (upd H2 d (.dK ws))) qs e1 fun v F2 H2 T2 x w fr => by
        refine ⟨x.ex d _ upd_same, ?_⟩
        have neT : ∀ a ∈ T2, a ≠ d := fun a m => (back (fr.new a m)).1
        have x2 : Xt F H F2 (upd H2 d (.dK ws)) := by
          refine ⟨fun a u z => ?_, x.sub, fun a u z => ?_, fun a u z => ?_⟩
          · by_cases ne : a = d
            · subst ne
              rw [hd] at z
              rw [upd_same]
              exact z
            · rw [upd_ne ne]
              exact x.ex a u (by rw [upd_ne ne]; exact z)
          · have ne : a ≠ d := fun w => by
              subst w
              rcases x.fresh a u z with z2 | z2 | ⟨g, z2⟩
              · rw [hF] at z2; cases z2
              · rw [upd_same] at z2; cases z2
              · rw [upd_same] at z2
                cases z2
                obtain ⟨_, g⟩ := g
                cases g
            rw [upd_ne ne]
            exact x.fle a u z
          · rcases x.fresh a u z with z2 | z2 | ⟨g, z2⟩
            · exact .inl z2
            · exact .inr (.inl (back z2).2)
            · have ne : a ≠ d := fun w => by
                subst w
                rw [upd_same] at z2
                cases z2
                obtain ⟨_, g⟩ := g
                cases g
              rw [upd_ne ne] at z2
              exact .inr (.inr ⟨g, z2⟩)
        have w2 : Own k F2 (upd H2 d (.dK ws)) v o T2 := Own.mono (Same.refl F2) (fun a m u z => by rw [upd_ne (neT a m)]; exact z) w
        have f2 : Fresh F2 H (upd H2 d (.dK ws)) T2 := ⟨fr.nd, fun a m => (back (fr.new a m)).2, fr.off, fun a m o' u' z => by
          rw [upd_ne (neT a m)] at z
          exact fr.nofz a m o' u' z⟩
        exact r v _ ⟨F2, S1, T2 ++ S2, s.push x2 w2 f2⟩
      exact t ⟨d, od, ws, b1, upd_same⟩
@[simp] theorem qKeysD_eq {ρ : List O} : qKeysD i ρ = match qVar i ρ with
    | some (.dic ds) => some (keysD ds)
    | _ => none := rfl
end
theorem pe_lcK {X : Cx} {elt tg iter : Expr} {ifs : List Expr} {scope : Scope} {own : List (Str × Nat)} {pos : Pos} {wi : TI} {g : TG} {tt : TT} {te : TE} (hc : X.calm = true) (hN : X.N.Nodup) (hi : PI X tg iter wi) (ok : BlkOk X.N X.env.scope scope own)
    (hg : ∀ (s : Shared) (H : Hp) (C : Addr) (cl : List (Str × Addr)) (fp : List Addr), PG (X.blk s H scope (compEnvC scope cl C X.env) fp) tg g)
    (ht : ∀ (s : Shared) (H : Hp) (C : Addr) (cl : List (Str × Addr)) (fp : List Addr), PTs (X.blk s H scope (compEnvC scope cl C X.env) fp) ifs tt)
    (he : ∀ (s : Shared) (H : Hp) (C : Addr) (cl : List (Str × Addr)) (fp : List Addr), PE (X.blk s H scope (compEnvC scope cl C X.env) fp) elt te) (hs : ∀ x, foldedSetIterable iter X.env x = pure x := by intro _; rfl) :
    PE X (.ListComp elt [⟨tg, iter, ifs, 0⟩] scope pos) (tLockE (tLc wi g tt te (own.map (·.2)))) := pe_lock (pe_lc hc hN hi ok hg ht he hs)
end FM
namespace FM
open PySem PySem.Spec L2 PyProof.Rows
open PySem.W (dataLe alike dataLt)
/-! ### the least place is the least free one -/
/-- free of all of them -/
def freeG (s p : Int) (xs : List (Int × (Int × Int))) : Prop := ∀ x ∈ xs, lieO p s x.1 x.2.1 = false
theorem lieO_false {p s q t : Int} : lieO p s q t = false ↔ (q + t ≤ p ∨ p + s ≤ q) := by
  unfold lieO
  rw [Bool.and_eq_false_iff, decide_eq_false_iff_not, decide_eq_false_iff_not]
  omega
theorem lieO_true {p s q t : Int} : lieO p s q t = true ↔ (p < q + t ∧ q < p + s) := by
  unfold lieO
  rw [Bool.and_eq_true, decide_eq_true_eq, decide_eq_true_eq]
/-- what the going on by order of places comes to -/
theorem leastGo_is {s b : Int} (hs : 1 ≤ s) (hb : 1 ≤ b) : ∀ {ys done : List (Int × (Int × Int))} {f : Int}, (∀ y ∈ ys, 1 ≤ y.2.1) → (ys.Pairwise fun x y => x.1 ≤ y.1) → (∀ x ∈ done, ∀ y ∈ ys, x.1 ≤ y.1) → f % b = 0 → 0 ≤ f → freeG s f done → (∀ q, 0 ≤ q → q % b = 0 → q < f → ¬ freeG s q done) → (f = 0 ∨ ∃ x ∈ done, f = up (x.1 + x.2.1) b) →
    leastGo s b f ys % b = 0 ∧ 0 ≤ leastGo s b f ys ∧ freeG s (leastGo s b f ys) (done ++ ys) ∧ (∀ q, 0 ≤ q → q % b = 0 → q < leastGo s b f ys → ¬ freeG s q (done ++ ys)) ∧ (leastGo s b f ys = 0 ∨ ∃ x ∈ done ++ ys, leastGo s b f ys = up (x.1 + x.2.1) b)
  | [], done, f, _, _, _, h1, h2, h3, h4, h5 => by
    rw [List.append_nil]
    exact ⟨h1, h2, h3, h4, h5⟩
  | y :: ys, done, f, hp, hw, hd, h1, h2, h3, h4, h5 => by
    obtain ⟨w1, w2⟩ := List.pairwise_cons.mp hw
    have e : done ++ y :: ys = (done ++ [y]) ++ ys := by simp
    have hd2 : ∀ x ∈ done ++ [y], ∀ z ∈ ys, x.1 ≤ z.1 := fun x mx z mz => by
      rcases List.mem_append.mp mx with mx | mx
      · exact hd x mx z (List.mem_cons_of_mem _ mz)
      · rw [List.mem_singleton.mp mx]
        exact w1 z mz
    have hp2 : ∀ z ∈ ys, 1 ≤ z.2.1 := fun z m => hp z (List.mem_cons_of_mem _ m)
    have hy := hp y List.mem_cons_self
    obtain ⟨u1, u2⟩ := up_is (e := y.1 + y.2.1) (b := b) (by omega)
    have sub : ∀ q, freeG s q (done ++ [y]) → freeG s q done := fun q h x m => h x (List.mem_append_left _ m)
    rw [e]
    show leastGo s b (if lieO f s y.1 y.2.1 then up (y.1 + y.2.1) b else f) ys % b = 0 ∧ _
    by_cases c : lieO f s y.1 y.2.1 = true
    · obtain ⟨c1, c2⟩ := lieO_true.mp c
      have eq : leastGo s b f (y :: ys) = leastGo s b (up (y.1 + y.2.1) b) ys := by simp [leastGo, c]
      rw [if_pos c, eq]
      refine leastGo_is hs hb hp2 w2 hd2 up_mod (by omega) (fun x mx => ?_) (fun q q1 q2 q3 q4 => ?_) (.inr ⟨y, by simp, rfl⟩)
      · rcases List.mem_append.mp mx with mx | mx
        · have g := lieO_false.mp (h3 x mx)
          have g2 := hd x mx y List.mem_cons_self
          exact lieO_false.mpr (by omega)
        · rw [List.mem_singleton.mp mx]
          exact lieO_false.mpr (.inl u1)
      · rcases Int.lt_or_le q f with z | z
        · exact h4 q q1 q2 z (sub q q4)
        · have g := lieO_false.mp (q4 y (by simp))
          rcases g with g | g
          · have := up_uniq (n := y.1 + y.2.1) (b := b) (p := q) (by omega) g (by omega) q2
            omega
          · omega
    · have c' : lieO f s y.1 y.2.1 = false := by simpa using c
      have eq : leastGo s b f (y :: ys) = leastGo s b f ys := by simp [leastGo, c']
      rw [if_neg c, eq]
      refine leastGo_is hs hb hp2 w2 hd2 h1 h2 (fun x mx => ?_) (fun q q1 q2 q3 q4 => h4 q q1 q2 q3 (sub q q4)) ?_
      · rcases List.mem_append.mp mx with mx | mx
        · exact h3 x mx
        · rw [List.mem_singleton.mp mx]
          exact c'
      · rcases h5 with h5 | ⟨x, mx, h5⟩
        · exact .inl h5
        · exact .inr ⟨x, List.mem_append_left _ mx, h5⟩
theorem le_encP {x y : Int × (Int × Int)} (h : dataLe false encP x y = true) : x.1 ≤ y.1 := by
  rcases Int.lt_or_le y.1 x.1 with z | z
  · have e : dataLt (encP y) (encP x) = true := by
      unfold encP
      rw [PySem.W.dataLt_pair (by simp [alike]) (by simp [thD, alike, PySem.W.alikeAll])]
      have n : PyData.eqv (.int y.1) (.int x.1) = false := by simp [PyData.eqv]; omega
      rw [n]
      simp only [Bool.false_eq_true, if_false]
      rw [PySem.W.dataLt_int]
      exact decide_eq_true z
    rw [PySem.W.dataLe_eq] at h
    simp [e] at h
  · exact z
theorem sortP_sorted (xs : List (Int × (Int × Int))) : (sortP xs).Pairwise fun x y => x.1 ≤ y.1 := by
  have := PySem.W.sort_pairwise (le := dataLe false encP) (PySem.W.sortLe_total (PyProof.Rows.listOrd PyProof.Rows.itemOrd) false fun b => PySem.W.keyToks (encP b)) xs
  exact this.imp fun h => le_encP h
theorem leastG_is {th : Int × Int} {xs : List (Int × (Int × Int))} (hs : 1 ≤ th.1) (hb : 1 ≤ th.2) (h : ∀ y ∈ xs, 1 ≤ y.2.1) :
    leastG th xs % th.2 = 0 ∧ 0 ≤ leastG th xs ∧ freeG th.1 (leastG th xs) xs ∧ (∀ q, 0 ≤ q → q % th.2 = 0 → q < leastG th xs → ¬ freeG th.1 q xs) ∧ (leastG th xs = 0 ∨ ∃ x ∈ xs, leastG th xs = up (x.1 + x.2.1) th.2) := by
  have p := sortP_perm xs
  have fr : ∀ {q : Int}, freeG th.1 q (sortP xs) ↔ freeG th.1 q xs := fun {q} => ⟨fun f x m => f x (p.mem_iff.mpr m), fun f x m => f x (p.mem_iff.mp m)⟩
  obtain ⟨r1, r2, r3, r4, r5⟩ := leastGo_is (s := th.1) (b := th.2) hs hb (ys := sortP xs) (done := []) (f := 0) (fun y m => h y (p.mem_iff.mp m)) (sortP_sorted xs) (fun x m => by cases m) (by simp) (Int.le_refl _) (fun x m => by cases m) (fun q q1 _ q3 => by omega) (.inl rfl)
  rw [List.nil_append] at r3 r4 r5
  refine ⟨r1, r2, fr.mp r3, fun q q1 q2 q3 q4 => r4 q q1 q2 q3 (fr.mpr q4), ?_⟩
  rcases r5 with r5 | ⟨x, mx, r5⟩
  · exact .inl r5
  · exact .inr ⟨x, p.mem_iff.mp mx, r5⟩
end FM
namespace FM
open PySem PySem.Spec L2 PyProof.Rows
theorem oIx_dic {kvs : List (Key × PD)} {i : Int} : oIx (.dic kvs) (.fz (.int i)) = (lk kvs (.inl i)).map .fz := by
  have e2 : oLook (.dic kvs) (.fz (.int i)) = some (lk kvs (.inl i)) := rfl
  show (match oLook (.dic kvs) (.fz (.int i)) with | some (some d) => some (O.fz d) | _ => none) = _
  rw [e2]
  cases lk kvs (.inl i) <;> rfl
def freeB (s : Int) (xs : List (Int × (Int × Int))) (p : Int) : Bool := xs.all fun x => decide (x.1 + x.2.1 ≤ p) || decide (p + s ≤ x.1)
theorem freeB_iff {s p : Int} {xs : List (Int × (Int × Int))} : freeB s xs p = true ↔ freeG s p xs := by
  unfold freeB freeG
  rw [List.all_eq_true]
  constructor
  · intro h x m
    have := h x m
    simp at this
    exact lieO_false.mpr this
  · intro h x m
    have := lieO_false.mp (h x m)
    simpa using this
end FM
namespace FM
open PySem PySem.Spec L2 PyProof.Rows
/-! ### max(.., default=..), and a list taken apart -/
def rMaxD (K : Frag) : List V → List V → Hp → VK → Prop := fun vs zs H Q => ∃ (a : Addr) (ns : List Int) (d : V), vs = [V.ref a] ∧ zs = [d] ∧ SqL K H a (ns.map V.int) ∧ (ns = [] → Q d H) ∧ ∀ n r, ns = n :: r → Q (.int (r.foldl max n)) H
theorem reads_ints {h : Heap} : ∀ {ns : List Int} {us : List Value}, Vals (ns.map V.int) us → ∃ as, ReadsAll h us (ns.map .int) as
  | [], _, r => by
    cases r
    exact ⟨[], .nil⟩
  | n :: ns, _, r => by
    cases r with
    | cons e t =>
      obtain ⟨tk, rfl⟩ := e
      obtain ⟨as, q⟩ := reads_ints (h := h) t
      exact ⟨_, .cons (.int n tk) q⟩
theorem alike_intsA (ns : List Int) : PySem.W.AlikeAll (ns.map .int) := by
  refine ⟨fun x m y m2 => ?_, fun x m => ?_⟩
  · obtain ⟨i, _, rfl⟩ := List.mem_map.mp m
    obtain ⟨j, _, rfl⟩ := List.mem_map.mp m2
    simp [PySem.W.alike]
  · obtain ⟨i, _, rfl⟩ := List.mem_map.mp m
    simp
theorem cr_maxD {X : Cx} (hc : X.calm = true) (hu : X.A.units + 1 < cLine) : CallRK X (.builtin "max") [Str.ofString "default"] (rMaxD X.K) := by
  intro pins s σ H xs zs us ws Q I r1 r2 h
  obtain ⟨a, ns, d, rfl, rfl, hs, q0, q1⟩ := h
  obtain ⟨its, rv, hl, _⟩ := I.list hs
  rw [Vals.ref1 r1]
  cases r2 with
  | cons rd t =>
    cases t
    obtain ⟨as, ra⟩ := reads_ints (h := s.heap) rv
    refine PySem.W.max_list_default (xs := ns.map .int) (I.ok.hd hc) hl.isList (by simpa using ra) (alike_intsA ns) (by rw [depth_ints]; omega) (fun e h' tk hk => ?_) fun y ys i v h' tk bs e hv rd2 hk => ?_
    · exact ⟨d, H, I.kept hk, rd, q0 (by simpa using e)⟩
    · cases ns with
      | nil => cases e
      | cons n r =>
        rw [List.map_cons] at e
        injection e with e1 e2
        subst e1 e2
        rw [PySem.W.maxD_ints] at rd2
        cases rd2
        exact ⟨.int _, H, I.kept hk, ⟨_, rfl⟩, q1 n r rfl⟩
def oMaxD : List O → List O → Option O
  | [x], [.fz (.int d)] => match seqL x with
    | some ds => match intsD ds with
      | some [] => some (.fz (.int d))
      | some (n :: r) => some (.fz (.int (r.foldl max n)))
      | none => none
    | none => none
  | _, _ => none
section
variable {k : Kc} {E : XK}
def qCbK (f : List O → List O → Option O) (r z : List O → Option (List O)) : QE := fun ρ => match r ρ with
  | none => none
  | some os => match z ρ with
    | none => none
    | some ps => f os ps
theorem tev_maxD {t tk : TA} {qs qz : List O → Option (List O)} (ha : TAv k t qs) (hb : TAv k tk qz) : TEv k (tCKw (rMaxD k.K) t tk) (qCbK oMaxD qs qz) := by
  intro F H σ ρ S o Q q e h
  unfold qCbK at e
  split at e
  · cases e
  · rename_i os e1
    split at e
    · cases e
    · rename_i ps e2
      refine ha F H σ ρ S os _ q e1 fun vs F1 H1 x1 w1 => hb F1 H1 σ ρ S ps _ (q.xt x1) e2 fun zs F2 H2 x2 w2 => ?_
      have w3 := w1.xt x2
      unfold oMaxD at e
      split at e
      · rename_i x d
        cases w3 with
        | cons w ww =>
          cases ww
          cases w2 with
          | cons z zz =>
            cases zz
            have ez := z.int
            subst ez
            split at e
            · rename_i ds es
              obtain ⟨a, us, rfl, g1, g2⟩ := w.seqL x2.fle es
              split at e
              · rename_i en
                cases e
                have e3 := intsD_eq en
                subst e3
                rw [reps_ints g2] at g1
                exact ⟨a, [], _, rfl, rfl, g1, fun _ => h _ F2 H2 (x1.trans x2) (.fz (.int _)), fun n r e => by cases e⟩
              · rename_i n r en
                cases e
                have e3 := intsD_eq en
                subst e3
                rw [reps_ints g2] at g1
                exact ⟨a, n :: r, _, rfl, rfl, g1, (fun e => by cases e), fun n' r' e => by cases e; exact h _ F2 H2 (x1.trans x2) (.fz (.int _))⟩
              · cases e
            · cases e
      · cases e
@[simp] theorem qCbK_eq {f : List O → List O → Option O} {r z : List O → Option (List O)} {ρ : List O} : qCbK f r z ρ = match r ρ with
    | none => none
    | some os => match z ρ with
      | none => none
      | some ps => f os ps := rfl
end
end FM
namespace FM
open PySem PySem.Spec L2 PyProof.Rows
/-! ### a comprehension in a comprehension -/
end FM
namespace FM
open PySem PySem.Spec L2 PyProof.Rows
/-! ### the least number that all borders divide -/
end FM
namespace FM
open PySem PySem.Spec L2 PyProof.Rows
/-! ### comprehensions with effects; max of a list -/
def lcW (f : QG) (e : M O) (vs : List Nat) : List PD → List PD → List O → (List PD → List O → Prop) → Prop
  | [], acc, ρ, Q => Q acc ρ
  | x :: xs, acc, ρ, Q => ∃ ρ1, f x ρ = some ρ1 ∧ wM (e ρ1) fun o ρ2 => ∃ d, o = .fz d ∧ acc.length < sizeLine ∧ lcW f e vs xs (acc ++ [d]) (wipeO ρ2 vs) Q
theorem lcW_go {f : QG} {e : M O} {vs : List Nat} {Q : List PD → List O → Prop} : ∀ {xs acc : List PD} {ρ : List O}, lcW f e vs xs acc ρ Q → ∃ ds ρ2, lcGoM f bYes e vs xs acc ρ = .ok ds ρ2 ∧ Q ds ρ2
  | [], acc, ρ, h => ⟨acc, ρ, rfl, h⟩
  | x :: xs, acc, ρ, h => by
    obtain ⟨ρ1, e1, h⟩ := h
    unfold lcGoM
    rw [e1]
    simp only [bYes]
    cases e2 : e ρ1 with
    | ok o ρ2 =>
      rw [e2] at h
      obtain ⟨d, rfl, h1, h2⟩ := h
      simp only [h1, if_true]
      exact lcW_go h2
    | _ => rw [e2] at h; exact h.elim
theorem wM_lcI {mi : M (List PD)} {f : QG} {e : M O} {vs : List Nat} {ρ : List O} {Q : O → List O → Prop} (h : wM (mi ρ) fun ds ρ1 => lcW f e vs ds [] (wipeO ρ1 vs) fun acc ρ2 => Q (.lst acc) ρ2) : wM (mLc mi f bYes e vs ρ) Q := by
  unfold mLc
  cases e1 : mi ρ with
  | ok ds ρ1 =>
    rw [e1] at h
    obtain ⟨acc, ρ2, e2, q⟩ := lcW_go h
    simp only [e2]
    exact q
  | _ => rw [e1] at h; exact h.elim
theorem maxI_cons {x : Int} : ∀ {r : List Int}, maxI (x :: r) = r.foldl max x
  | [] => rfl
  | y :: r => by
    show max x (maxI (y :: r)) = (y :: r).foldl max x
    rw [maxI_cons]
    rw [List.foldl_cons]
    have h : ∀ (r : List Int) (a b : Int), max a (r.foldl max b) = r.foldl max (max a b) := by
      intro r
      induction r with
      | nil => intro a b; rfl
      | cons z r ih =>
        intro a b
        rw [List.foldl_cons, List.foldl_cons, ih, Int.max_assoc]
    exact h r x y
theorem eqv_int {i j : Int} : PyData.eqv (.int i) (.int j) = decide (i = j) := by simp [PyData.eqv, beq_dec]
theorem oIn_ints {i : Int} {l : List Int} : oIn (.fz (.int i)) (.fz (.list (l.map .int))) = some (.fz (.bool (decide (i ∈ l)))) := by
  have e1 := shaped_ints l
  have e2 : SeqAt.shaped (PyData.int i) = true := by simp [SeqAt.shaped, PyData.canLay0, PyData.depth]
  have e3 : ((l.map PyData.int).any fun z => PyData.eqv z (.int i)) = decide (i ∈ l) := by
    rw [List.any_map, Bool.eq_iff_iff, List.any_eq_true]
    constructor
    · rintro ⟨j, mj, e⟩
      simp [eqv_int] at e
      rw [← e]
      simpa using mj
    · intro mi
      exact ⟨i, by simpa using mi, by simp [eqv_int]⟩
  have e4 : bIn (.fz (.int i)) (.fz (.list (l.map .int))) = some (decide (i ∈ l)) := by
    rw [← e3]
    show (if (SeqAt.shaped (PyData.int i) && SeqAt.shaped (PyData.list (l.map PyData.int))) = true then _ else _) = _
    rw [e1, e2]
    rfl
  unfold oIn
  rw [e4]
  rfl
def rngL (lo : Int) (n : Nat) : List Int := (List.range n).map fun i : Nat => lo + (i : Int)
theorem rngD_L {lo : Int} {n : Nat} : rngD lo n = (rngL lo n).map .int := by
  unfold rngD rngL
  rw [List.map_map]
  rfl
theorem qLrg2_i {a b : QE} {ρ : List O} {m n : Int} (h1 : -(2 ^ 62) ≤ m) (h2 : n < 2 ^ 62) (h3 : m ≤ n) (h4 : n - m ≤ 16777216) (ea : a ρ = some (.fz (.int m))) (eb : b ρ = some (.fz (.int n))) : qLrg2 a b ρ = some (.lst ((rngL m (n - m).toNat).map .int)) := by
  have b1 : big62 m = true := big62_of h1 (by omega)
  have b2 : big62 n = true := big62_of (by omega) h2
  have d : decide ((n - m).toNat ≤ 2 ^ 24) = true := decide_eq_true (by omega)
  unfold qLrg2
  rw [ea, eb]
  simp only [b1, b2, d, Bool.and_self, if_true]
  rw [rngD_L]
@[simp] theorem oMax1_l {l : List Int} (h : 0 < l.length) : oMax1 [.fz (.list (l.map .int))] = some (.fz (.int (maxI l))) := by
  have e : intsD (l.map PyData.int) = some l := intsD_map l
  cases l with
  | nil => cases h
  | cons x l => simp [oMax1, oInts, seqL, e]
def topD (d : Int) : List Int → Int
  | [] => d
  | n :: r => r.foldl max n
@[simp] theorem oMaxD_l {l : List Int} {d : Int} : oMaxD [.fz (.list (l.map .int))] [.fz (.int d)] = some (.fz (.int (topD d l))) := by
  have e : intsD (l.map PyData.int) = some l := intsD_map l
  show (match intsD (l.map PyData.int) with | some [] => some (O.fz (.int d)) | some (n :: r) => some (O.fz (.int (r.foldl max n))) | none => none) = _
  rw [e]
  cases l <;> rfl
end FM
namespace FM
open PySem PySem.Spec L2 PyProof.Rows
/-! ### list(range(..)) of what has effects; xs[::-1] -/
section
variable {k : Kc} {E : XK}
open Classical in
noncomputable def mLrg1 (m : M O) : M O := fun ρ => match m ρ with
  | .ok (.fz (.int n)) ρ1 => if 0 ≤ n ∧ n ≤ 16777216 then .ok (.lst (rngD 0 n.toNat)) ρ1 else .bad
  | .ok _ _ => .bad
  | .exc x ρ1 => .exc x ρ1
  | .bad => .bad
@[simp] theorem wM_lrg1 {m : M O} {ρ : List O} {Q : O → List O → Prop} : wM (mLrg1 m ρ) Q = wM (m ρ) fun o ρ1 => ∃ n : Int, o = .fz (.int n) ∧ 0 ≤ n ∧ n ≤ 16777216 ∧ Q (.lst (rngD 0 n.toNat)) ρ1 := by
  unfold mLrg1
  cases e : m ρ with
  | ok o ρ1 =>
    cases o with
    | fz d =>
      cases d with
      | int n =>
        by_cases c : 0 ≤ n ∧ n ≤ 16777216
        · simp [c]
        · simp [c, wM]
          intro h1 h2
          exact (c ⟨h1, h2⟩).elim
      | _ => simp [wM]
    | _ => simp [wM]
  | _ => rfl
end
end FM
namespace FM
open PySem PySem.Spec L2 PyProof.Rows
/-! ### a list's method called within a comprehension -/
section
variable {X : Cx} {K : Frag} {o e : Expr} {es : List Expr} {to : TE} {t : TA} {name : Str} {apos cpos : Pos} {T id : String} {r : V → List V → Hp → VK → Prop}
end
end FM
namespace FM
open PySem PySem.Spec L2 PyProof.Rows
/-! ### list.count of ints -/
section
variable {k : Kc} {ta tb : TE} {qa qb : QE}
def oCnt (x y : O) : Option O := match seqL x, y with
  | some ds, .fz (.int i) => match intsD ds with
    | some ns => some (.fz (.int ((ns.count i : Nat) : Int)))
    | none => none
  | _, _ => none
@[simp] theorem oCnt_l {l : List Int} {i : Int} : oCnt (.fz (.list (l.map .int))) (.fz (.int i)) = some (.fz (.int ((l.count i : Nat) : Int))) := by
  have e : intsD (l.map PyData.int) = some l := intsD_map l
  unfold oCnt
  show (match intsD (l.map PyData.int) with | some ns => some (O.fz (.int ((ns.count i : Nat) : Int))) | none => none) = _
  rw [e]
end
/-! ### what is told of a call is used at once -/
end FM
namespace FM
open PySem PySem.Spec L2 PyProof.Rows
/-! ### dicts of one's own whose entries are one's own: taking an entry out, putting it back, storing -/
def setO : List (Key × O) → Key → O → List (Key × O)
  | [], _, _ => []
  | (y, o1) :: r, x, o => if y = x then (y, o) :: r else (y, o1) :: setO r x o
def putO (os : List (Key × O)) (x : Key) (o : O) : List (Key × O) := if (lk os x).isSome then setO os x o else os ++ [(x, o)]
theorem lk_pos {o : O} {y x : Key} {r : List (Key × O)} (e : y = x) : lk ((y, o) :: r) x = some o := by simp [lk, List.find?_cons, e]
theorem lk_neg {o : O} {y x : Key} {r : List (Key × O)} (e : ¬ y = x) : lk ((y, o) :: r) x = lk r x := by simp [lk, List.find?_cons, e]
theorem OwnK.keys {k : Kc} {F H : Hp} : ∀ {vs : List (Key × V)} {os : List (Key × O)} {S : List Addr}, OwnK k F H vs os S → vs.map (·.1) = os.map (·.1)
  | _, _, _, .nil => rfl
  | _, _, _, .cons _ r => congrArg (_ :: ·) (OwnK.keys r)
theorem OwnK.take {k : Kc} {F H : Hp} {x : Key} : ∀ {vs : List (Key × V)} {os : List (Key × O)} {S : List Addr} {o : O}, OwnK k F H vs os S → lk os x = some o → ∃ v T R, valV vs x = some v ∧ Own k F H v o T ∧ OwnK k F H vs (setO os x .dead) R ∧ (T ++ R).Perm S
  | _, _, _, _, .nil, e => by cases e
  | _, _, _, o, .cons (x := y) (v := v) (o := o1) (os := os) (S := S1) (T := S2) h r, e => by
    by_cases q : y = x
    · rw [lk_pos q] at e
      cases e
      refine ⟨v, S1, S2, valV_pos q, h, ?_, .refl _⟩
      unfold setO
      rw [if_pos q]
      exact .cons (S := []) .dead r
    · rw [lk_neg q] at e
      obtain ⟨v', T, R, h1, h2, h3, h4⟩ := OwnK.take r e
      refine ⟨v', T, S1 ++ R, by rw [valV_neg q]; exact h1, h2, ?_, ?_⟩
      · unfold setO
        rw [if_neg q]
        exact .cons h h3
      · have : (T ++ (S1 ++ R)).Perm (S1 ++ (T ++ R)) := by
          rw [← List.append_assoc, ← List.append_assoc]
          exact List.Perm.append_right R List.perm_append_comm
        exact this.trans (List.Perm.append_left S1 h4)
theorem OwnK.put {k : Kc} {F H : Hp} {x : Key} {v : V} {o : O} {T : List Addr} (w : Own k F H v o T) : ∀ {vs : List (Key × V)} {os : List (Key × O)} {S : List Addr}, OwnK k F H vs os S → valV vs x = some v → ∃ U, (∀ a, U.count a ≤ (T ++ S).count a) ∧ OwnK k F H vs (setO os x o) U
  | _, _, _, .nil, e => by cases e
  | _, _, _, .cons (x := y) (v := v1) (o := o1) (os := os) (S := S1) (T := S2) h r, e => by
    by_cases q : y = x
    · rw [valV_pos q] at e
      cases e
      refine ⟨T ++ S2, fun a => by simp only [List.count_append]; omega, ?_⟩
      unfold setO
      rw [if_pos q]
      exact .cons w r
    · rw [valV_neg q] at e
      obtain ⟨U, h1, h2⟩ := OwnK.put w r e
      refine ⟨S1 ++ U, fun a => by have := h1 a; simp only [List.count_append] at this ⊢; omega, ?_⟩
      unfold setO
      rw [if_neg q]
      exact .cons h h2
theorem map_noK {x : Key} {y : V} : ∀ {vs : List (Key × V)}, x ∉ vs.map (·.1) → vs.map (fun kv => if kv.1 = x then (kv.1, y) else kv) = vs
  | [], _ => rfl
  | (z, v) :: vs, h => by
    rw [List.map_cons, List.mem_cons, not_or] at h
    rw [List.map_cons, if_neg (fun e => h.1 e.symm), map_noK h.2]
theorem OwnK.store1 {k : Kc} {F H : Hp} {x : Key} {y : V} {o : O} {T : List Addr} (w : Own k F H y o T) : ∀ {vs : List (Key × V)} {os : List (Key × O)} {S : List Addr}, OwnK k F H vs os S → (os.map (·.1)).Nodup → x ∈ os.map (·.1) → ∃ U, (∀ a, U.count a ≤ (T ++ S).count a) ∧ OwnK k F H (vs.map fun kv => if kv.1 = x then (kv.1, y) else kv) (setO os x o) U
  | _, _, _, .nil, _, m => by cases m
  | _, _, _, .cons (x := z) (v := v1) (o := o1) (vs := vs) (os := os) (S := S1) (T := S2) h r, nd, m => by
    obtain ⟨n1, n2⟩ := List.nodup_cons.mp nd
    by_cases q : z = x
    · refine ⟨T ++ S2, fun a => by simp only [List.count_append]; omega, ?_⟩
      have hn : x ∉ vs.map (·.1) := by rw [OwnK.keys r, ← q]; exact n1
      rw [List.map_cons, if_pos q, map_noK hn]
      unfold setO
      rw [if_pos q]
      exact .cons w r
    · have m2 : x ∈ os.map (·.1) := by
        rcases List.mem_cons.mp m with e | e
        · exact (q e.symm).elim
        · exact e
      obtain ⟨U, h1, h2⟩ := OwnK.store1 w r n2 m2
      refine ⟨S1 ++ U, fun a => by have := h1 a; simp only [List.count_append] at this ⊢; omega, ?_⟩
      rw [List.map_cons, if_neg q]
      unfold setO
      rw [if_neg q]
      exact .cons h h2
theorem OwnK.snoc {k : Kc} {F H : Hp} {x : Key} {y : V} {o : O} {T : List Addr} (w : Own k F H y o T) : ∀ {vs : List (Key × V)} {os : List (Key × O)} {S : List Addr}, OwnK k F H vs os S → ∃ U, (∀ a, U.count a ≤ (T ++ S).count a) ∧ OwnK k F H (vs ++ [(x, y)]) (os ++ [(x, o)]) U
  | _, _, _, .nil => ⟨T ++ [], fun a => by simp, .cons w .nil⟩
  | _, _, _, .cons (S := S1) h r => by
    obtain ⟨U, h1, h2⟩ := OwnK.snoc w r
    exact ⟨S1 ++ U, fun a => by have := h1 a; simp only [List.count_append] at this ⊢; omega, .cons h h2⟩
theorem lk_mem {x : Key} : ∀ {os : List (Key × O)}, (lk os x).isSome = true ↔ x ∈ os.map (·.1)
  | [] => by simp [lk]
  | (y, o) :: r => by
    by_cases q : y = x
    · rw [lk_pos q]; simp [q]
    · rw [lk_neg q, lk_mem (os := r), List.map_cons, List.mem_cons]
      exact ⟨.inr, fun h => h.elim (fun e => (q e.symm).elim) id⟩
theorem OwnK.store {k : Kc} {F H : Hp} {x : Key} {y : V} {o : O} {T S : List Addr} {vs : List (Key × V)} {os : List (Key × O)} (w : Own k F H y o T) (h : OwnK k F H vs os S) (nd : (os.map (·.1)).Nodup) : ∃ U, (∀ a, U.count a ≤ (T ++ S).count a) ∧ OwnK k F H (putK vs x y) (putO os x o) U := by
  unfold putK putO
  have e : (vs.any fun kv => decide (kv.1 = x)) = (lk os x).isSome := by
    rw [Bool.eq_iff_iff, lk_mem, ← OwnK.keys h, List.any_eq_true]
    simp
  rw [e]
  split
  · rename_i c
    exact OwnK.store1 w h nd (lk_mem.mp c)
  · exact OwnK.snoc w h
theorem setO_pos {o1 o : O} {y x : Key} {r : List (Key × O)} (e : y = x) : setO ((y, o1) :: r) x o = (y, o) :: r := if_pos e
/-! ### an entry of a slot -/
section
variable {k : Kc} {E : XK}
end
end FM
namespace FM
open PySem PySem.Spec L2 PyProof.Rows
/-! ### a list's method on an entry of one's own dict; storing into such a dict -/
section
variable {k : Kc} {E : XK}
end
end FM
namespace FM
open PySem PySem.Spec L2 PyProof.Rows
/-! ### a dict's display, entries of any kind under texts -/
section
variable {k : Kc} {E : XK}
def kvZ (zs : List Str) (ys : List V) : List (Key × V) := List.zipWith (fun z y => (.inr z, y)) zs ys
def koZ (zs : List Str) (ys : List O) : List (Key × O) := List.zipWith (fun z y => (.inr z, y)) zs ys
theorem OwnK.zip {F H : Hp} : ∀ {zs : List Str} {ws : List V} {xs : List O} {A : List Addr}, Owns k F H ws xs A → zs.length = xs.length → OwnK k F H (kvZ zs ws) (koZ zs xs) A
  | [], _, _, _, .nil, _ => .nil
  | z :: zs, _, _, _, .cons h r, hl => .cons h (OwnK.zip r (by simpa using hl))
  | [], _, _, _, .cons _ _, hl => by cases hl
  | _ :: _, _, _, _, .nil, hl => by cases hl
theorem putK_new {kvs : List (Key × V)} {x : Key} {v : V} (h : x ∉ kvs.map (·.1)) : putK kvs x v = kvs ++ [(x, v)] := by
  unfold putK
  have e : (kvs.any fun kv => decide (kv.1 = x)) = false := by
    rw [List.any_eq_false]
    intro p m c
    exact h (List.mem_map.mpr ⟨p, m, by simpa using c⟩)
  rw [e]
  rfl
theorem mergeK_new : ∀ {more kvs : List (Key × V)}, ((kvs ++ more).map (·.1)).Nodup → mergeK kvs more = kvs ++ more
  | [], kvs, _ => (List.append_nil kvs).symm
  | (x, v) :: more, kvs, h => by
    show mergeK (putK kvs x v) more = _
    have hx : x ∉ kvs.map (·.1) := fun m => by
      rw [List.map_append, List.nodup_append] at h
      exact h.2.2 x m x (by simp) rfl
    rw [putK_new hx, mergeK_new (by rw [List.append_assoc]; exact h), List.append_assoc]
    rfl
end
end FM
namespace FM
open PySem PySem.Spec L2 PyProof.Rows
/-! ### targets that take what is one's own: names, entries of one's own dict, pairs of these -/
section
variable {k : Kc} {E : XK}
abbrev QT := O → List O → Option (List O)
def TGm (k : Kc) (g : TG) (f : QT) (J : List Nat) : Prop := ∀ (P : List (Nat × V)) (e : Ent) (σ : L2.St) (ρ ρ' : List O) (v : V) (o : O) (vs : List V) (os : List O) (H : Hp) (Q : L2.St → Hp → Prop), Off P J → St k P e σ ρ (v :: vs) (o :: os) H → f o ρ = some ρ' →
  (∀ σ' H', St k P e σ' ρ' vs os H' → Q σ' H') → g v σ H Q
def TGsm (k : Kc) (g : TGs) (f : List O → List O → Option (List O)) (J : List Nat) : Prop := ∀ (P : List (Nat × V)) (e : Ent) (σ : L2.St) (ρ ρ' : List O) (ws : List V) (xs : List O) (vs : List V) (os : List O) (H : Hp) (Q : L2.St → Hp → Prop), Off P J → ws.length = xs.length → St k P e σ ρ (ws ++ vs) (xs ++ os) H → f xs ρ = some ρ' →
  (∀ σ' H', St k P e σ' ρ' vs os H' → Q σ' H') → g ws σ H Q
def tName (i : Nat) : QT := fun o ρ => some (ρ.set i o)
theorem tgm_name {i : Nat} : TGm k (gName i) (tName i) [i] := by
  intro P e σ ρ ρ' v o vs os H Q hj s ef h
  cases ef
  exact h _ _ (s.store hj)
def tNil2 : List O → List O → Option (List O) := fun xs ρ => match xs with
  | [] => some ρ
  | _ => none
def tCons2 (f : QT) (g : List O → List O → Option (List O)) : List O → List O → Option (List O) := fun xs ρ => match xs with
  | o :: r => match f o ρ with
    | some ρ1 => g r ρ1
    | none => none
  | [] => none
theorem tgsm_nil : TGsm k gNil tNil2 [] := by
  intro P e σ ρ ρ' ws xs vs os H Q hj hl s ef h
  cases xs with
  | nil =>
    cases ws with
    | nil => cases ef; exact ⟨rfl, h _ _ s⟩
    | cons => cases hl
  | cons => cases ef
theorem tgsm_cons {t : TG} {u : TGs} {f : QT} {g : List O → List O → Option (List O)} {J L : List Nat} (h1 : TGm k t f J) (h2 : TGsm k u g L) : TGsm k (gCons t u) (tCons2 f g) (J ++ L) := by
  intro P e σ ρ ρ' ws xs vs os H Q hj hl s ef h
  cases xs with
  | nil => cases ef
  | cons o r =>
    cases ws with
    | nil => cases hl
    | cons w ws =>
      unfold tCons2 at ef
      simp only at ef
      cases e1 : f o ρ with
      | none => rw [e1] at ef; cases ef
      | some ρ1 =>
        rw [e1] at ef
        exact ⟨w, ws, rfl, h1 P e σ ρ ρ1 w o _ _ H _ hj.l s e1 fun σ' H' s2 => h2 P e σ' ρ1 ρ' ws r vs os H' Q hj.r (by simpa using hl) s2 ef h⟩
def tTup (n : Nat) (g : List O → List O → Option (List O)) : QT := fun o ρ => match o with
  | .fz (.tuple ds) => if ds.length = n then g (ds.map .fz) ρ else none
  | .ntp os => if os.length = n then g os ρ else none
  | _ => none
theorem owns_reps {F H : Hp} : ∀ {vs : List V} {ds : List PD}, Reps k.K F vs ds → Owns k F H vs (ds.map .fz) []
  | _, _, .nil => .nil
  | _, _, .cons h r => .cons (S := []) (T := []) (.fz h) (owns_reps r)
theorem Owns.len {F H : Hp} : ∀ {vs : List V} {os : List O} {S : List Addr}, Owns k F H vs os S → vs.length = os.length
  | _, _, _, .nil => rfl
  | _, _, _, .cons _ r => congrArg (· + 1) (Owns.len r)
theorem tgm_tup {gs : TGs} {g : List O → List O → Option (List O)} {J : List Nat} {n : Nat} (h1 : TGsm k gs g J) : TGm k (gTup k.K n gs) (tTup n g) J := by
  intro P e σ ρ ρ' v o vs os H Q hj s ef h
  obtain ⟨F, S1, S2, env, tmp, fr, pin⟩ := s
  unfold tTup at ef
  split at ef
  · rename_i ds
    split at ef
    · rename_i hn
      cases tmp with
      | @cons _ _ _ _ T S3 w r =>
        cases w with
        | fz w =>
          cases w with
          | @tup a ws _ a1 a2 =>
            refine ⟨a, ws, rfl, (tup_le fr.fle a1).sq, by rw [a2.length]; exact hn, h1 P e σ ρ ρ' ws (ds.map .fz) vs os H Q hj (by rw [a2.length, List.length_map]) ?_ ef h⟩
            obtain ⟨S, eS, hS⟩ := Owns.join (owns_reps (H := H) a2) r
            exact ⟨F, S1, S, env, hS, by rw [eS]; exact fr, pin⟩
          | dic _ _ e => cases e
          | dit _ _ e => cases e
    · cases ef
  · rename_i xs
    split at ef
    · rename_i hn
      cases tmp with
      | @cons _ _ _ _ T S3 w r =>
        cases w with
        | @ntp a ws _ T2 a1 ag2 a2 =>
          refine ⟨a, ws, rfl, SqT.of a1, by rw [a2.len]; exact hn, h1 P e σ ρ ρ' ws xs vs os H Q hj a2.len ?_ ef h⟩
          obtain ⟨S, eS, hS⟩ := Owns.join a2 r
          refine ⟨F, S1, S, env, hS, ?_, pin⟩
          rw [eS]
          refine Sbp.fr fr (.of_count fun b => ?_)
          simp only [List.count_append, List.count_cons]
          omega
    · cases ef
  · cases ef
def sAsgM (f : QT) (m : M O) : MS := fun ρ => match m ρ with
  | .ok o ρ1 => match f o ρ1 with
    | some ρ2 => .next ρ2
    | none => .bad
  | .exc x ρ1 => .exc x ρ1
  | .bad => .bad
theorem tsm_asgM {g : TG} {f : QT} {J : List Nat} {te : TE} {m : M O} (hg : TGm k g f J) (h : TEm k E te m) : TSm k E J (tAsg te g) (sAsgM f m) := by
  intro P e σ ρ vs os H D o s g'
  refine h P e σ ρ vs os H _ s ?_
  unfold sAsgM at g'
  cases e1 : m ρ with
  | exc x ρ1 => rw [e1] at g'; exact g'.exc
  | bad => rw [e1] at g'; exact g'
  | ok x ρ1 =>
    rw [e1] at g'
    intro v H1 s1
    simp only at g'
    cases e2 : f x ρ1 with
    | none => rw [e2] at g'; exact g'.elim
    | some ρ2 =>
      rw [e2] at g'
      exact hg P e σ ρ1 ρ2 v x vs os H1 _ o s1 e2 fun σ' H' s2 => g' σ' H' s2
end
end FM
namespace FM
open PySem PySem.Spec L2 PyProof.Rows
/-! ### moving an entry out of one's own dict; words -/
section
variable {k : Kc} {E : XK}
end
section
variable {ρ : List O} {Q : O → List O → Prop} {nx bk ct : List O → Prop} {rt : O → List O → Prop} {m : M O} {ml : M (List O)}
@[simp] theorem wS_asgM {f : QT} : wS (sAsgM f m ρ) nx rt bk ct = wM (m ρ) fun o ρ1 => ∃ ρ2, f o ρ1 = some ρ2 ∧ nx ρ2 := by
  unfold sAsgM
  cases e : m ρ with
  | ok o ρ1 => cases e2 : f o ρ1 <;> simp [wS, e2]
  | _ => rfl
@[simp] theorem oIx_ndc {kvs : List (Key × O)} {z : Str} : oIx (.ndc kvs) (.fz (.str z)) = lk kvs (.inr z) := rfl
@[simp] theorem lk_hit {o : O} {x : Key} {r : List (Key × O)} : lk ((x, o) :: r) x = some o := lk_pos rfl
@[simp] theorem setO_hit {o1 o : O} {x : Key} {r : List (Key × O)} : setO ((x, o1) :: r) x o = (x, o) :: r := setO_pos rfl
end
end FM
namespace FM
open PySem PySem.Spec L2 PyProof.Rows
/-! ### range of what has effects -/
section
variable {k : Kc} {E : XK}
noncomputable def iRng1M (m : M O) : M (List PD) := fun ρ => match m ρ with
  | .ok (.fz (.int j)) ρ1 => if big62 j then .ok (rngD 0 j.toNat) ρ1 else .bad
  | .ok _ _ => .bad
  | .exc x ρ1 => .exc x ρ1
  | .bad => .bad
theorem tim_rng1 {te : TE} {m : M O} (h : TEm k E te m) : TIm k E (iRng1 (tCons te tNil)) (iRng1M m) := by
  intro P e σ ρ vs os H R s g
  refine h P e σ ρ vs os H _ s ?_
  unfold iRng1M at g
  cases e1 : m ρ with
  | exc x ρ1 => rw [e1] at g; exact g
  | bad => rw [e1] at g; exact g
  | ok o ρ1 =>
    rw [e1] at g
    intro v H1 s1
    split at g
    · rename_i j ρ2 ee
      cases ee
      split at g
      · rename_i hz
        obtain ⟨F, S1, S2, s1⟩ := s1
        have ev := s1.top.1
        obtain ⟨_, s2⟩ := s1.top
        have hv : v = .int j := by
          cases ev with
          | int => rfl
          | dic _ _ e => cases e
          | dit _ _ e => cases e
        subst hv
        have b := big62_ok hz
        exact ⟨j, rfl, b.1, b.2, g _ F H1 S1 S2 s2 walkD_range⟩
      · exact g.elim
    · exact g.elim
    · rename_i hx; cases hx
    · rename_i hx; cases hx
@[simp] theorem wM_rng1M {m : M O} {ρ : List O} {Q : List PD → List O → Prop} : wM (iRng1M m ρ) Q = wM (m ρ) fun o ρ1 => ∃ j : Int, o = .fz (.int j) ∧ big62 j = true ∧ Q (rngD 0 j.toNat) ρ1 := by
  unfold iRng1M
  cases e : m ρ with
  | ok o ρ1 =>
    cases o with
    | fz d =>
      cases d with
      | int n => by_cases c : big62 n = true <;> simp [c, wM]
      | _ => simp [wM]
    | _ => simp [wM]
  | _ => rfl
end
end FM
namespace FM
open PySem PySem.Spec L2 PyProof.Rows
/-! ### list.remove of ints -/
section
variable {k : Kc}
def fstAt (i : Int) : List Int → Option Nat
  | [] => none
  | n :: r => if n = i then some 0 else (fstAt i r).map (· + 1)
theorem fstAt_is {i : Int} : ∀ {ns : List Int} {j : Nat}, fstAt i ns = some j → ns[j]? = some i ∧ ∀ m, m < j → ns[m]? ≠ some i
  | [], _, h => by cases h
  | n :: r, j, h => by
    unfold fstAt at h
    by_cases c : n = i
    · rw [if_pos c] at h
      cases h
      exact ⟨by simp [c], fun m hm => by omega⟩
    · rw [if_neg c] at h
      obtain ⟨j', e1, e2⟩ := Option.map_eq_some_iff.mp h
      subst e2
      obtain ⟨h1, h2⟩ := fstAt_is e1
      refine ⟨by simpa using h1, fun m hm => ?_⟩
      cases m with
      | zero => simpa using c
      | succ m =>
        have := h2 m (by omega)
        simpa using this
def fRem : List PD → List PD → Option (PD × List PD) := fun ds xs => match xs with
  | [.int i] => match intsD ds with
    | some ns => match fstAt i ns with
      | some j => some (.none, (ns.eraseIdx j).map .int)
      | none => none
    | none => none
  | _ => none
theorem reps_of_ints {K : Frag} {F : Hp} : ∀ (ns : List Int), Reps K F (ns.map V.int) (ns.map .int)
  | [] => .nil
  | n :: r => .cons (.int n) (reps_of_ints r)
theorem lm_rem : LstM k rRemI fRem := by
  intro F H a vs ds ws xs d ds' Q fl ha r rw' e g
  unfold fRem at e
  split at e
  · rename_i i
    split at e
    · rename_i ns en
      split at e
      · rename_i j hj
        cases e
        cases rw' with
        | cons w r2 =>
          cases r2
          have ew := (Vw.fz (k := k) (H := F) (S := []) w).int
          subst ew
          have e3 := intsD_eq en
          subst e3
          rw [reps_ints r] at ha
          obtain ⟨h1, h2⟩ := fstAt_is hj
          exact ⟨a, ns, i, j, rfl, rfl, ha, h1, h2, g _ _ (reps_of_ints _) .non⟩
      · cases e
    · cases e
  · cases e
@[simp] theorem fRem_i {ns : List Int} {i : Int} : fRem (ns.map .int) [.int i] = match fstAt i ns with
    | some j => some (.none, (ns.eraseIdx j).map .int)
    | none => none := by
  have e : intsD (ns.map PyData.int) = some ns := intsD_map ns
  show (match intsD (ns.map PyData.int) with | some ns => _ | none => _) = _
  rw [e]
end
end FM
namespace FM
open PySem PySem.Spec L2 PyProof.Rows
/-! ### instances of classes -/
def pfO (f : Str) (o : O) : List (Str × O) → List (Str × O)
  | [] => [(f, o)]
  | (g, x) :: r => if g = f then (g, o) :: r else (g, x) :: pfO f o r
theorem lu_pos {α : Type} {o : α} {y x : Str} {r : List (Str × α)} (e : y = x) : List.lookup x ((y, o) :: r) = some o := by
  subst e
  simp [List.lookup]
theorem lu_neg {α : Type} {o : α} {y x : Str} {r : List (Str × α)} (e : ¬ y = x) : List.lookup x ((y, o) :: r) = List.lookup x r := by
  have : (x == y) = false := beq_eq_false_iff_ne.mpr fun z => e z.symm
  simp only [List.lookup, this]
theorem pfO_pos {o1 o : O} {y x : Str} {r : List (Str × O)} (e : y = x) : pfO x o ((y, o1) :: r) = (y, o) :: r := if_pos e
theorem pfO_neg {o1 o : O} {y x : Str} {r : List (Str × O)} (e : ¬ y = x) : pfO x o ((y, o1) :: r) = (y, o1) :: pfO x o r := if_neg e
theorem pfO_pfO {x : Str} {o o' : O} : ∀ {fs : List (Str × O)}, pfO x o' (pfO x o fs) = pfO x o' fs
  | [] => if_pos rfl
  | (y, o1) :: r => by
    by_cases q : y = x
    · rw [pfO_pos q, pfO_pos q, pfO_pos q]
    · rw [pfO_neg q, pfO_neg q, pfO_neg q, pfO_pfO]
theorem OwnF.keys {k : Kc} {F H : Hp} : ∀ {vs : List (Str × V)} {os : List (Str × O)} {S : List Addr}, OwnF k F H vs os S → vs.map (·.1) = os.map (·.1)
  | _, _, _, .nil => rfl
  | _, _, _, .cons _ r => congrArg (_ :: ·) (OwnF.keys r)
theorem OwnF.none {k : Kc} {F H : Hp} {x : Str} : ∀ {vs : List (Str × V)} {os : List (Str × O)} {S : List Addr}, OwnF k F H vs os S → os.lookup x = none → vs.lookup x = none
  | _, _, _, .nil, _ => rfl
  | _, _, _, .cons (x := y) h r, e => by
    by_cases q : y = x
    · rw [lu_pos q] at e; cases e
    · rw [lu_neg q] at e ⊢; exact OwnF.none r e
theorem OwnF.take {k : Kc} {F H : Hp} {x : Str} : ∀ {vs : List (Str × V)} {os : List (Str × O)} {S : List Addr} {o : O}, OwnF k F H vs os S → os.lookup x = some o → ∃ v T R, vs.lookup x = some v ∧ Own k F H v o T ∧ OwnF k F H vs (pfO x .dead os) R ∧ (T ++ R).Perm S
  | _, _, _, _, .nil, e => by cases e
  | _, _, _, o, .cons (x := y) (v := v) (o := o1) (os := os) (S := S1) (T := S2) h r, e => by
    by_cases q : y = x
    · rw [lu_pos q] at e
      cases e
      refine ⟨v, S1, S2, lu_pos q, h, ?_, .refl _⟩
      rw [pfO_pos q]
      exact .cons (S := []) .dead r
    · rw [lu_neg q] at e
      obtain ⟨v', T, R, h1, h2, h3, h4⟩ := OwnF.take r e
      refine ⟨v', T, S1 ++ R, by rw [lu_neg q]; exact h1, h2, ?_, ?_⟩
      · rw [pfO_neg q]
        exact .cons h h3
      · have : (T ++ (S1 ++ R)).Perm (S1 ++ (T ++ R)) := by
          rw [← List.append_assoc, ← List.append_assoc]
          exact List.Perm.append_right R List.perm_append_comm
        exact this.trans (List.Perm.append_left S1 h4)
theorem putF_pos {v1 v : V} {y x : Str} {r : List (Str × V)} (e : y = x) : putF x v ((y, v1) :: r) = (y, v) :: r := if_pos e
theorem putF_neg {v1 v : V} {y x : Str} {r : List (Str × V)} (e : ¬ y = x) : putF x v ((y, v1) :: r) = (y, v1) :: putF x v r := if_neg e
theorem OwnF.put {k : Kc} {F H : Hp} {x : Str} {v : V} {o : O} {T : List Addr} (w : Own k F H v o T) : ∀ {vs : List (Str × V)} {os : List (Str × O)} {S : List Addr}, OwnF k F H vs os S → ∃ U, (∀ a, U.count a ≤ (T ++ S).count a) ∧ OwnF k F H (putF x v vs) (pfO x o os) U
  | _, _, _, .nil => ⟨T ++ [], fun a => by simp, .cons w .nil⟩
  | _, _, _, .cons (x := y) (v := v1) (o := o1) (os := os) (S := S1) (T := S2) h r => by
    by_cases q : y = x
    · refine ⟨T ++ S2, fun a => by simp only [List.count_append]; omega, ?_⟩
      rw [putF_pos q, pfO_pos q]
      exact .cons w r
    · obtain ⟨U, h1, h2⟩ := OwnF.put w r
      refine ⟨S1 ++ U, fun a => by have := h1 a; simp only [List.count_append] at this ⊢; omega, ?_⟩
      rw [putF_neg q, pfO_neg q]
      exact .cons h h2
theorem putF_same {x : Str} {v : V} : ∀ {vs : List (Str × V)}, vs.lookup x = some v → putF x v vs = vs
  | [], e => by cases e
  | (y, v1) :: r, e => by
    by_cases q : y = x
    · rw [lu_pos q] at e
      cases e
      exact putF_pos q
    · rw [lu_neg q] at e
      rw [putF_neg q, putF_same e]
section
variable {k : Kc} {E : XK}
/-- the slot's instance -/
theorem StW.insAt {P : List (Nat × V)} {e : Ent} {σ : L2.St} {ρ : List O} {vs : List V} {os : List O} {F H : Hp} {S1 S2 : List Addr} {i c : Nat} {fs : List (Str × O)} (s : StW k P e σ ρ vs os F H S1 S2) (e0 : qVar i ρ = some (.ins c fs)) :
    ∃ a dx ws, σ[i]? = some (some (.ref a)) ∧ H a = some (.ins (k.cl c) dx ws) ∧ ws.length = fs.length ∧ ∀ x, fs.lookup x = none → ws.lookup x = none := by
  obtain ⟨g1, g2⟩ := qVar_some e0
  obtain ⟨w, T, R, a1, a2, a3, a4⟩ := s.env.take g1 g2
  cases a2 with
  | @ins a dx _ ws _ T2 hd hk =>
    refine ⟨a, dx, ws, a1, hd, ?_, fun x e => hk.none e⟩
    have := congrArg List.length hk.keys
    simpa using this
/-- storing what stands on top into a field -/
theorem StW.fldPut {P : List (Nat × V)} {e : Ent} {σ : L2.St} {ρ : List O} {v : V} {o : O} {vs : List V} {os : List O} {F H : Hp} {S1 S2 : List Addr} {i c : Nat} {x : Str} {fs : List (Str × O)} (s : StW k P e σ ρ (v :: vs) (o :: os) F H S1 S2) (e0 : qVar i ρ = some (.ins c fs)) :
    ∃ a dx ws, σ[i]? = some (some (.ref a)) ∧ H a = some (.ins (k.cl c) dx ws) ∧ ws.length = fs.length ∧ ∃ U S3, StW k P e σ (ρ.set i (.ins c (pfO x o fs))) vs os F (upd H a (.ins (k.cl c) dx (putF x v ws))) U S3 := by
  obtain ⟨env, tmp, fr, pin⟩ := s
  obtain ⟨g1, g2⟩ := qVar_some e0
  obtain ⟨w, T, R, a1, a2, a3, a4⟩ := env.take g1 g2
  cases tmp with
  | @cons _ _ _ _ Tv S3 hv tmp =>
    cases a2 with
    | @ins a dx _ ws _ T2 hd hk =>
      have fr2 : Fr e F H (a :: (T2 ++ (Tv ++ (R ++ S3)))) := Sbp.fr fr (.of_count fun b => by
        have c2 := a4.count_eq b
        simp only [List.count_append, List.count_cons, List.count_nil] at c2 ⊢
        omega)
      have nd := List.nodup_cons.mp fr2.nd
      have keep : ∀ U : List Addr, (∀ b ∈ U, b ∈ T2 ++ (Tv ++ (R ++ S3))) → At U H (upd H a (.ins (k.cl c) dx (putF x v ws))) := fun U m b mb u z => by
        rw [upd_ne (fun q => nd.1 (by rw [← q]; exact m b mb))]
        exact z
      have fw := fr2.write (a := a) (o := .ins (k.cl c) dx (putF x v ws)) List.mem_cons_self (fun _ _ z => by cases z)
      have env3 := a3.mono (Same.refl F) (keep R fun b m => List.mem_append_right _ (List.mem_append_right _ (List.mem_append_left _ m)))
      have tmp3 := tmp.mono (Same.refl F) (keep S3 fun b m => List.mem_append_right _ (List.mem_append_right _ (List.mem_append_right _ m)))
      have hk3 := hk.mono (Same.refl F) (keep T2 fun b m => List.mem_append_left _ m)
      have hv3 := hv.mono (Same.refl F) (keep Tv fun b m => List.mem_append_right _ (List.mem_append_left _ m))
      obtain ⟨U3, m3, q3⟩ := OwnF.put (x := x) hv3 hk3
      have el : ws.length = fs.length := by
        have := congrArg List.length hk.keys
        simpa using this
      obtain ⟨U, mU, q⟩ := env3.put (i := i) a1 (Own.ins (k := k) (F := F) upd_same q3)
      rw [List.set_set] at q
      exact ⟨a, dx, ws, a1, hd, el, U, S3, q, tmp3, Sbp.fr fw (.of_count fun b => by
        have h1 := mU.count b
        have h2 := m3 b
        simp only [List.count_append, List.count_cons, List.count_nil] at h1 h2 ⊢
        omega), pin⟩
def sSetF (c i : Nat) (x : Str) (m : M O) : MS := fun ρ => match m ρ with
  | .ok o ρ1 => match qVar i ρ1 with
    | some (.ins c' fs) => if c' = c ∧ fs.length < 1000 then .next (ρ1.set i (.ins c (pfO x o fs))) else .bad
    | _ => .bad
  | .exc x ρ1 => .exc x ρ1
  | .bad => .bad
theorem tsm_setF {c i : Nat} {x : Str} {te : TE} {m : M O} (hc : Cls k.K (k.cl c)) (hn : NoAttr k.K (k.cl c) x) (h : TEm k E te m) : TSm k E [] (sFld k.K (tVar i) te x) (sSetF c i x m) := by
  intro P e σ ρ vs os H D o st g
  refine h P e σ ρ vs os H _ st ?_
  unfold sSetF at g
  cases e1 : m ρ with
  | exc x ρ1 => rw [e1] at g; exact g.exc
  | bad => rw [e1] at g; exact g
  | ok w ρ1 =>
    rw [e1] at g
    intro v H1 s1
    simp only at g
    obtain ⟨F, S1, S2, s1⟩ := s1
    split at g
    · rename_i c' fs e2
      split at g
      · rename_i hz
        obtain ⟨rfl, hz⟩ := hz
        obtain ⟨a, dx, ws, a1, a2, a3, U, S3, s5⟩ := s1.fldPut (x := x) e2
        exact ⟨.ref a, a1, a, _, dx, ws, rfl, a2, hc, hn, by rw [a3]; exact hz, g σ _ ⟨F, U, S3, s5⟩⟩
      · exact g.elim
    · exact g.elim
/-- a field that is read -/
def qFld (c i : Nat) (x : Str) : QE := fun ρ => match qVar i ρ with
  | some (.ins c' fs) => if c' = c then match fs.lookup x with
      | some .dead => none
      | r => r
    else none
  | _ => none
theorem qFld_some {c i : Nat} {x : Str} {ρ : List O} {o : O} (e : qFld c i x ρ = some o) : ∃ fs, qVar i ρ = some (.ins c fs) ∧ fs.lookup x = some o ∧ o ≠ .dead := by
  unfold qFld at e
  split at e
  · rename_i c' fs e0
    split at e
    · rename_i hc
      subst hc
      split at e
      · cases e
      · rename_i hn
        exact ⟨fs, e0, e, fun z => hn (by rw [e, z])⟩
    · cases e
  · cases e
theorem tev_fld {c i : Nat} {x : Str} (hc : Cls k.K (k.cl c)) (hn : NoAttr k.K (k.cl c) x) : TEv k (tFld k.K (tVar i) x) (qFld c i x) := by
  intro F H σ ρ S o Q q e h
  obtain ⟨fs, e0, e1, e2⟩ := qFld_some e
  obtain ⟨v, hv, T, mT, w⟩ := q.env.slot e0
  cases w with
  | @ins a dx _ ws _ T2 hd hk =>
    obtain ⟨v, T3, R, b1, b2, b3, b4⟩ := hk.take e1
    exact ⟨.ref a, hv, a, _, dx, ws, v, rfl, hd, hc, hn, b1, h v F H (Xt.refl q.fle) ⟨T3, fun z m => mT z (List.mem_cons_of_mem _ (b4.subset (List.mem_append_left _ m))), b2⟩⟩
/-- the field's list: where it stands, and what may be written there -/
theorem StW.fldAt {P : List (Nat × V)} {e : Ent} {σ : L2.St} {ρ : List O} {vs : List V} {os : List O} {F H : Hp} {S1 S2 : List Addr} {i c : Nat} {x : Str} {fs : List (Str × O)} {ds : List PD} (s : StW k P e σ ρ vs os F H S1 S2) (e0 : qVar i ρ = some (.ins c fs)) (e1 : fs.lookup x = some (.lst ds)) :
    ∃ a dx ws b us, σ[i]? = some (some (.ref a)) ∧ H a = some (.ins (k.cl c) dx ws) ∧ ws.lookup x = some (.ref b) ∧ H b = some (.lst us) ∧ Reps k.K F us ds ∧ ∀ us' ds', Reps k.K F us' ds' → ∃ U, StW k P e σ (ρ.set i (.ins c (pfO x (.lst ds') fs))) vs os F (upd H b (.lst us')) U S2 := by
  obtain ⟨env, tmp, fr, pin⟩ := s
  obtain ⟨g1, g2⟩ := qVar_some e0
  obtain ⟨v, T, R, a1, a2, a3, a4⟩ := env.take g1 g2
  cases a2 with
  | @ins d dx _ es _ T2 hd hk =>
    obtain ⟨v, T3, R3, k1, k2, k3, k4⟩ := hk.take e1
    cases k2 with
    | @lst b us _ h r =>
      have fr2 : Fr e F H (b :: d :: (R3 ++ (R ++ S2))) := Sbp.fr fr (.of_count fun z => by
        have c2 := a4.count_eq z
        have c3 := k4.count_eq z
        simp only [List.count_append, List.count_cons, List.count_nil] at c2 c3 ⊢
        omega)
      have ha : H b = some (.lst us) := by
        rcases h with h | ⟨ob, h⟩
        · exact h
        · exact (fr2.nofz b List.mem_cons_self ob _ h).elim
      refine ⟨d, dx, es, b, us, a1, hd, k1, ha, r, fun us' ds' r' => ?_⟩
      have nd := List.nodup_cons.mp fr2.nd
      have keep : ∀ U : List Addr, (∀ z ∈ U, z ∈ d :: (R3 ++ (R ++ S2))) → At U H (upd H b (.lst us')) := fun U m z mz u q => by
        rw [upd_ne (fun w => nd.1 (by rw [← w]; exact m z mz))]
        exact q
      have fw := fr2.write (a := b) (o := .lst us') List.mem_cons_self (fun _ _ z => by cases z)
      have env3 := a3.mono (Same.refl F) (keep R fun b m => List.mem_cons_of_mem _ (List.mem_append_right _ (List.mem_append_left _ m)))
      have tmp3 := tmp.mono (Same.refl F) (keep S2 fun b m => List.mem_cons_of_mem _ (List.mem_append_right _ (List.mem_append_right _ m)))
      have hk3 := k3.mono (Same.refl F) (keep R3 fun b m => List.mem_cons_of_mem _ (List.mem_append_left _ m))
      have hne : d ≠ b := fun q => nd.1 (by rw [← q]; exact List.mem_cons_self)
      obtain ⟨U3, m3, q3⟩ := hk3.put (x := x) (Own.lst (k := k) (F := F) (.inl upd_same) r')
      rw [pfO_pfO, putF_same k1] at q3
      obtain ⟨U, mU, q⟩ := env3.put (i := i) a1 (Own.ins (k := k) (F := F) (by rw [upd_ne hne]; exact hd) q3)
      rw [List.set_set] at q
      exact ⟨U, q, tmp3, Sbp.fr fw (.of_count fun z => by
        have h1 := mU.count z
        have h2 := m3 z
        simp only [List.count_append, List.count_cons, List.count_nil] at h1 h2 ⊢
        omega), pin⟩
/-- a method of a field's list, its arguments quiet -/
def mMtF (c i : Nat) (x : Str) (f : List PD → List PD → Option (PD × List PD)) (qs : List O → Option (List O)) : M O := fun ρ => match qVar i ρ with
  | some (.ins c' fs) => if c' = c then match fs.lookup x with
    | some (.lst ds) => match qs ρ with
      | some xs => match fzs xs with
        | some zs => match f ds zs with
          | some r => .ok (.fz r.1) (ρ.set i (.ins c (pfO x (.lst r.2) fs)))
          | none => .bad
        | none => .bad
      | none => .bad
    | _ => .bad
    else .bad
  | _ => .bad
theorem tem_mtF {c i : Nat} {x : Str} {r : V → List V → Hp → VK → Prop} {f : List PD → List PD → Option (PD × List PD)} {ta : TA} {qs : List O → Option (List O)} (hc : Cls k.K (k.cl c)) (hn : NoAttr k.K (k.cl c) x) (h : TAv k ta qs) (hr : LstM k r f) : TEm k E (tBM k.K "list" r (tFld k.K (tVar i) x) ta) (mMtF c i x f qs) := by
  intro P e σ ρ vs os H Q s g
  unfold mMtF at g
  split at g
  · rename_i c' fs e0
    split at g
    · rename_i ec
      subst ec
      split at g
      · rename_i ds e1
        split at g
        · rename_i xs e2
          split at g
          · rename_i zs e3
            cases e4 : f ds zs with
            | none => rw [e4] at g; exact g.elim
            | some rr =>
              rw [e4] at g
              obtain ⟨F, S1, S2, s⟩ := s
              obtain ⟨a, dx, ws, b, us, a1, a2, a3, a4, a5, a6⟩ := s.fldAt e0 e1
              refine ⟨.ref a, a1, a, _, dx, ws, .ref b, rfl, a2, hc, hn, a3, .inl ⟨rfl, us, .inl (.inl a4)⟩, h F H σ ρ S1 xs _ s.qs e2 fun us2 F1 H1 x1 w1 => ?_⟩
              have s2 := s.xt x1
              obtain ⟨a', dx', ws', b', us', c1, c2, c3, c4, c5, c6⟩ := s2.fldAt e0 e1
              rw [a1] at c1
              cases c1
              have hd := x1.ex _ _ a2
              rw [hd] at c2
              cases c2
              rw [a3] at c3
              cases c3
              have ru := w1.fzs e3
              refine hr F1 H1 b us' ds us2 zs rr.1 rr.2 Q s2.fr.fle c4 c5 ru e4 fun v vs' rv rd => ?_
              obtain ⟨U, s5⟩ := c6 vs' rr.2 rv
              exact g v _ ⟨F1, U, [] ++ S2, s5.env, .cons (.fz rd) s5.tmp, s5.fr, s5.pin⟩
          · exact g.elim
        · exact g.elim
      · exact g.elim
    · exact g.elim
  · exact g.elim
end
end FM
namespace FM
open PySem PySem.Spec L2 PyProof.Rows
/-! ### methods, new instances, instances frozen -/
structure MethG (P : Program) (w : World) (K : Frag) (mg : Str → Option Value) (base : Heap) (k : Nat) (C : Addr) (m : Str) (sp : Sp) : Prop where
  ex : ∃ (f : Addr) (fd : FuncData) (ps : List Str), FnG P w K mg base (CXg P w) k f fd ps sp ∧ Cls K C ∧ Meth K C m f ∧ Binds K fd ps []
structure MakG (P : Program) (w : World) (K : Frag) (mg : Str → Option Value) (base : Heap) (k : Nat) (x : Str) (C : Addr) (sp : Sp) : Prop where
  ex : ∃ (f : Addr) (fd : FuncData) (ps : List Str), FnG P w K mg base (CXg P w) k f fd ps sp ∧ Mk K C f ∧ mg x = some (.ref C) ∧ Binds K fd ps []
section
variable {X : Cx} {CX : CXT} {j k : Nat} {f C : Addr} {fd : FuncData} {ps : List Str} {sp : Sp} {E : XK} {x m : Str} {p pos apos : Pos} {e o : Expr} {es : List Expr} {ta : TE} {t : TA} {dvs : List V} {ds : List Value}
theorem run_makeG {pins : List (Addr × Obj)} {σ : L2.St} {H : Hp} {s : Shared} {Q : VK} {us : List Value} {vs : List V} (M : Mk X.K C f) (F : FnG X.prog X.w X.K X.mg X.base CX k f fd ps sp) (hr : RoomG (k + 1) X.A) (hb : Binds X.K fd ps ds) (hd : Vals dvs ds)
    (hx : Passes CX X E) (I : Inv X pins σ H s) (r : Vals vs us)
    (h : ∀ x dx, H x = none → H dx = none → dx ≠ x → sp (.ref x :: (vs ++ dvs)) (upd (upd H dx (.own x)) x (.ins C dx [])) (fun v H2 => v = .non ∧ Q (.ref x) H2) E) :
    wpAny (model X.prog X.w) X.A (call (.ref C) us) (EP X pins σ Q) X.xe s := by
  have hq := h (s.heap.objs.size + 1) s.heap.objs.size (I.hok.fresh (Nat.le_succ _)) (I.hok.fresh (Nat.le_refl _)) (Nat.ne_of_lt (Nat.lt_succ_self _))
  have J := Inv.made (C := C) I
  have q2 : Vals (V.ref (s.heap.objs.size + 1) :: (vs ++ dvs)) (Value.ref (s.heap.objs.size + 1) :: (us ++ ds)) := .cons rfl (r.append hd)
  have el : (Value.ref (s.heap.objs.size + 1) :: us ++ ds).length = ps.length := by
    have z := q2.length
    rw [F.len _ _ _ _ hq] at z
    exact z.symm
  have go := F.run _ X.stack _ _ ⟨Value.ref (s.heap.objs.size + 1) :: us, []⟩ (Value.ref (s.heap.objs.size + 1) :: (us ++ ds)) _ _ E (hr.make C us []) (J.env0.make C us []) (hb _ (Value.ref (s.heap.objs.size + 1) :: us) J.kIn el) q2 hq
  refine wpAny_call (make_map (f := f) I.kIn M.makes M.init (beq_iff_eq.mp M.fn) (codeAny_mono go fun z s' hz => ?_))
  cases z with
  | error e => exact hx pins σ _ _ e s' J hz
  | ok fl =>
    cases fl with
    | ret u =>
      obtain ⟨v, H', J2, rv, ev, g⟩ := J.after hz
      subst ev
      exact ⟨rv, ⟨V.ref (s.heap.objs.size + 1), H', J2, rfl, g⟩⟩
    | _ => exact hz.elim
theorem pe_new0 (c : MakG X.prog X.w X.K X.mg X.base k x C sp) (hr : RoomG j X.A) (hk : k + 1 ≤ j) (hx : Passes (CXg X.prog X.w) X E) (hg : Gl X x)
    (hdb : (x == ("__debug__" : Str)) = false := by decide) : PE X (.Call (.Name x p) [] [] pos) (tMake C sp [] E tNil) := by
  obtain ⟨f, fd, ps, F, M, hm, hb⟩ := c.ex
  refine ⟨fun pins s σ H Q I h => wpAny_Call_Name_kw (ld_glob I hg hm ?_ hdb)⟩
  exact PySem.W.callWith_K0 I.kIn M.kp (run_makeG (us := []) M F (hr.mono hk) hb .nil hx I .nil h)
/-- what a call of a method is, as PySem's own text reads it -/
def plOf (o : Expr) (env : Env) : Sem Bool := do return (← importBound o env).getD true
theorem mth_form {o : Expr} {m : Str} {apos pos : Pos} {args : List Expr} {env : Env} (hbase : attributeBase o m env (eval o env) = eval o env)
    (hform : methodCallForm (args.length + ([] : List Keyword).length) (backTo pos (starEach args env)) (backToKw pos (keywordEach [] env)) = true) (hline : (apos.endLine == pos.line) = true) :
    eval (.Call (.Attribute o m apos) args [] pos) env = (do
      let ov ← eval o env
      standAt apos.atName
      let (f, first) ← holding [ov] (getMethod ov m (plOf o env))
      callWith pos f first (backTo pos (starEach args env)) (backToKw pos (keywordEach [] env))) := by
  rw [arm_eval_Call, hbase]
  unfold methodCall calleeOf methodCallPos
  rw [hform, hline]
  rfl
theorem pe_mth (c : MethG X.prog X.w X.K X.mg X.base k C m sp) (hr : RoomG j X.A) (hk : k ≤ j) (hx : Passes (CXg X.prog X.w) X E) (he : PE X o ta) (ha : PA X (e :: es) t)
    (hst : starEach (e :: es) X.env = (false, eval e X.env) :: starEach es X.env := by rfl) (hpl : (backTo pos (starEach es X.env)).any (·.1) = false := by rfl)
    (hbase : attributeBase o m X.env (eval o X.env) = eval o X.env := by rfl)
    (hform : methodCallForm ((e :: es).length + ([] : List Keyword).length) (backTo pos (starEach (e :: es) X.env)) (backToKw pos (keywordEach [] X.env)) = true := by rfl)
    (hline : (apos.endLine == pos.line) = true := by rfl) :
    PE X (.Call (.Attribute o m apos) (e :: es) [] pos) (tMeth C m sp [] E ta t) := by
  obtain ⟨f, fd, ps, F, hc, hm, hb⟩ := c.ex
  exact pe_methG (pl := plOf o X.env) he hc hm F (hr.mono hk) hb .nil hx ha hst hpl (mth_form hbase hform hline)
theorem pe_mth0 (c : MethG X.prog X.w X.K X.mg X.base k C m sp) (hr : RoomG j X.A) (hk : k ≤ j) (hx : Passes (CXg X.prog X.w) X E) (he : PE X o ta)
    (hbase : attributeBase o m X.env (eval o X.env) = eval o X.env := by rfl)
    (hform : methodCallForm (([] : List Expr).length + ([] : List Keyword).length) (backTo pos (starEach [] X.env)) (backToKw pos (keywordEach [] X.env)) = true := by rfl)
    (hline : (apos.endLine == pos.line) = true := by rfl) :
    PE X (.Call (.Attribute o m apos) [] [] pos) (tMeth C m sp [] E ta tNil) := by
  obtain ⟨f, fd, ps, F, hc, hm, hb⟩ := c.ex
  exact pe_meth0G (pl := plOf o X.env) he hc hm F (hr.mono hk) hb .nil hx (mth_form hbase hform hline)
end
theorem MethG.bad {P : Program} {w : World} {K : Frag} {mg : Str → Option Value} {base : Heap} {m : Str} {f C : Addr} {fd : FuncData} {ps : List Str} {kc : Kc} {n k : Nat} {g : List O → FR} (hg : g = fun _ => .bad)
    (hc : Cls K C) (hm : Meth K C m f) (b : Binds K fd ps []) : MethG P w K mg base k C m (spM kc n g) := by
  subst hg
  exact ⟨f, fd, ps, ⟨fun vs H Q E h => let ⟨_, _, _, _, _, _, z⟩ := h; z.elim, fun A outer s H args us vs Q E _ _ _ _ h => let ⟨_, _, _, _, _, _, z⟩ := h; z.elim⟩, hc, hm, b⟩
section
variable {k : Kc} {E : XK}
/-- o.m(..), o a slot's instance -/
def mMeth (c i : Nat) (nm : Str) (f : List O → FR) (as : List (Option Nat)) (ma : M (List O)) : M O := fun ρ => match qVar i ρ with
  | some (.ins c' fs) => if c' = c ∧ fs.lookup nm = none then mCall f (some i :: as) (mRef i ma) ρ else .bad
  | _ => .bad
theorem tem_meth {c i : Nat} {nm : Str} {tl : TA} {as : List (Option Nat)} {ma : M (List O)} {n : Nat} {f : List O → FR} (hn : as.length + 1 = n) (h : TAm k E tl as ma) : TEm k E (tMeth (k.cl c) nm (spM k n f) [] E (tVar i) tl) (mMeth c i nm f as ma) := by
  intro P e σ ρ vs os H Q s g
  unfold mMeth at g
  split at g
  · rename_i c' fs e0
    split at g
    · rename_i hc
      obtain ⟨rfl, hl⟩ := hc
      obtain ⟨v, hv, z⟩ := tem_call (as := some i :: as) (f := f) hn (tam_ref (i := i) h) P e σ ρ vs os H Q s g
      obtain ⟨F, S1, S2, s⟩ := s
      obtain ⟨a, dx, ws, a1, a2, a3, a4⟩ := s.insAt e0
      rw [a1] at hv
      cases hv
      exact ⟨.ref a, a1, a, dx, ws, rfl, a2, a4 _ hl, z⟩
    · exact g.elim
  · exact g.elim
/-- C(..) -/
def mMake (c : Nat) (f : List O → FR) (ma : M (List O)) : M O := fun ρ => match ma ρ with
  | .ok xs ρ1 => match f (.ins c [] :: xs) with
    | .ret (.fz .none) (o :: _) => .ok o ρ1
    | _ => .bad
  | .exc x ρ1 => .exc x ρ1
  | .bad => .bad
theorem tem_make {c : Nat} {tl : TA} {as : List (Option Nat)} {ma : M (List O)} {n : Nat} {f : List O → FR} (hn : as.length + 1 = n) (h : TAm k E tl as ma) (hlen : ∀ ρ xs ρ', ma ρ = .ok xs ρ' → xs.length = as.length) : TEm k E (tMake (k.cl c) (spM k n f) [] E tl) (mMake c f ma) := by
  intro P e σ ρ vs os H Q s g
  refine h P e σ ρ vs os H _ s ?_
  unfold mMake at g
  cases e1 : ma ρ with
  | bad => rw [e1] at g; exact g
  | exc x ρ1 => rw [e1] at g; exact g
  | ok xs ρ1 =>
    rw [e1] at g
    simp only at g
    intro ws H1 s1 hl hr x dx hx hdx hne
    obtain ⟨F, S1, S2, s1⟩ := s1
    have X1 : Xt F H1 F (upd H1 dx (.own x)) := Xt.own s1.fr.fle hdx
    have hx2 : (upd H1 dx (.own x)) x = none := by rw [upd_ne (fun q => hne q.symm)]; exact hx
    have X2 : Xt F (upd H1 dx (.own x)) F (upd (upd H1 dx (.own x)) x (.ins (k.cl c) dx [])) := Xt.own X1.fle hx2
    have Xx := X1.trans X2
    have s2 := s1.push Xx (v := .ref x) (o := .ins c []) (T := [x]) (.ins upd_same .nil) ⟨List.nodup_cons.mpr ⟨List.not_mem_nil, .nil⟩, (fun a m => by rw [List.mem_singleton.mp m]; exact hx), (fun a m => by rw [List.mem_singleton.mp m]; exact fle_none s1.fr.fle hx), (fun a m o u z => by rw [List.mem_singleton.mp m, upd_same] at z; cases z)⟩
    obtain ⟨env, tmp, fr, pin⟩ := s2
    obtain ⟨A, B, eS, o1, o2⟩ := Owns.split (ws := .ref x :: ws) (xs := .ins c [] :: xs) (by simp [hl]) tmp
    have fr' : Fr e F _ (A ++ (S1 ++ B)) := Sbp.fr fr (.of_count fun a => by
      rw [eS]
      simp only [List.count_append]
      omega)
    rw [List.append_nil]
    refine ⟨by rw [List.length_cons, hl, hlen _ _ _ e1]; exact hn, F, .ins c [] :: xs, A, o1, (fr'.sub (List.sublist_append_left _ _)).refl, ?_⟩
    cases e3 : f (.ins c [] :: xs) with
    | bad => rw [e3] at g; exact g
    | exc _ _ => rw [e3] at g; exact g.elim
    | ret o outs =>
      rw [e3] at g
      intro v H' z
      obtain ⟨F', S', p1, p2⟩ := z
      obtain ⟨p3, p4⟩ := fr'.call p2
      cases o with
      | fz d =>
        cases d with
        | none =>
          cases outs with
          | nil => exact g.elim
          | cons o outs =>
            cases p1 with
            | @cons _ _ _ _ T U w r =>
              cases w with
              | fz w =>
                cases r with
                | @cons _ _ _ _ T2 U2 w2 r2 =>
                  refine ⟨by cases w <;> first | rfl | (rename_i e; cases e), g _ H' ⟨F', S1, T2 ++ B, env.mono p2.f0 p4.left, .cons w2 (o2.mono p2.f0 p4.right), Sbp.fr p3 (.of_count fun a => ?_), pin⟩⟩
                  simp only [List.nil_append, List.count_append]
                  omega
        | _ => exact g.elim
      | _ => exact g.elim
theorem nil_len (ρ : List O) (xs : List O) (ρ' : List O) (e : mNil ρ = .ok xs ρ') : xs.length = 0 := by
  cases e
  rfl
/-! frozen fields -/
def frzFs : List (Str × O) → Option (List (Str × O))
  | [] => some []
  | (x, o) :: r => match toPD o, frzFs r with
    | some d, some r' => some ((x, .fz d) :: r')
    | _, _ => none
theorem OwnF.freeze {F H : Hp} {T : List Addr} (off : ∀ a ∈ T, F a = Option.none) : ∀ {vs : List (Str × V)} {os os' : List (Str × O)} {S : List Addr}, OwnF k F H vs os S → (∀ a ∈ S, a ∈ T) → frzFs os = some os' → OwnF k (over F H T) H vs os' []
  | _, _, _, _, .nil, _, e => by
    cases e
    exact .nil
  | _, _, os', _, .cons (o := o) (os := os) (S := S1) h r, m, e => by
    unfold frzFs at e
    cases e1 : toPD o with
    | none => rw [e1] at e; cases e
    | some d =>
      cases e2 : frzFs os with
      | none => rw [e1, e2] at e; cases e
      | some r' =>
        rw [e1, e2] at e
        cases e
        have q := own_fz (T := T) (over_sub off) (fun a u z rr => over_rd z rr) (fun a vs z rr => by rw [over_in z]; exact rr) (fun a z => m a (List.mem_append_left _ z)) h e1
        exact .cons (S := []) (T := []) (.fz q) (OwnF.freeze off r (fun a z => m a (List.mem_append_right _ z)) e2)
theorem StW.frzI {P : List (Nat × V)} {e : Ent} {σ : L2.St} {ρ : List O} {vs : List V} {os : List O} {F H : Hp} {S1 S2 : List Addr} {v : V} {c : Nat} {fs fs' : List (Str × O)} (s : StW k P e σ ρ (v :: vs) (.ins c fs :: os) F H S1 S2) (e1 : frzFs fs = some fs') :
    St k P e σ ρ (v :: vs) (.ins c fs' :: os) H := by
  obtain ⟨env, tmp, fr, pin⟩ := s
  cases tmp with
  | @cons _ _ _ _ T U w r =>
    cases w with
    | @ins a dx _ ws _ T2 hd hk =>
      have fr' : Fr e F H (T2 ++ ([a] ++ (S1 ++ U))) := Sbp.fr fr (.of_count fun z => by
        simp only [List.count_append, List.count_cons, List.count_nil]
        omega)
      have f2 := fr'.freeze
      have off : ∀ a ∈ T2, F a = none := fun a m => fr'.off a (List.mem_append_left _ m)
      refine ⟨over F H T2, S1, ([a] ++ U), env.mono (over_sub off) (At.of (Same.refl _)), .cons (S := [a]) (.ins hd (OwnF.freeze off hk (fun _ z => z) e1)) (r.mono (over_sub off) (At.of (Same.refl _))), Sbp.fr f2 (.of_count fun z => ?_), pin⟩
      simp only [List.count_append, List.count_cons, List.count_nil]
      omega
/-! a quiet call's field -/
/-! lists of one's own things in a field -/
theorem Owns.snoc {F H : Hp} {v : V} {o : O} {T : List Addr} (w : Own k F H v o T) : ∀ {us : List V} {ls : List O} {S : List Addr}, Owns k F H us ls S → Owns k F H (us ++ [v]) (ls ++ [o]) (S ++ T)
  | _, _, _, .nil => by
    have := Owns.cons w .nil
    rw [List.append_nil] at this
    exact this
  | _, _, _, .cons (S := S1) (T := S2) h r => by
    rw [List.append_assoc]
    exact .cons h (Owns.snoc w r)
end
end FM
namespace FM
open PySem PySem.Spec L2 PyProof.Rows
/-! ### sorted(set(xs)) of a list of ints -/
section
variable {P : Program} {w : World} {A : Around} {E : Value → Shared → Prop} {s : Shared}
end
section
variable {X : Cx}
end
end FM
namespace FM
open PySem PySem.Spec L2 PyProof.Rows
/-! ### sorted(d) of a dict with ints as keys, any number -/
def rSortDU : List V → Hp → VK → Prop := fun vs H Q => ∃ (a : Addr) (ks : List Int), vs = [.ref a] ∧ ((∃ kvs : List (Key × V), Rd H a (.dK kvs) ∧ kvs.map (·.1) = ks.map Sum.inl) ∨ (Rd H a (.dT []) ∧ ks = [])) ∧
    ∀ (ys : List Int) (p : Addr), ys.Perm ks → ys.Pairwise (· ≤ ·) → H p = none → Q (.ref p) (upd H p (.lst (ys.map V.int)))
section
variable {X : Cx}
theorem cr_sortDU (hcalm : X.calm = true) : CallR X (.builtin "sorted") rSortDU := by
  intro pins s σ H vs us Q I r q
  obtain ⟨a, ks, rfl, hd, q⟩ := q
  obtain ⟨u, eu, rx⟩ := vals1 r
  subst eu
  cases rx
  obtain ⟨lo, ws, hkeys, hw, dd⟩ : (a == sysModules) = false ∧ ∃ ws, ws.map (·.1) = ks.map Sum.inl ∧ ws.length ≤ sizeLine ∧ s.heap.DictOf (mixKind X.prog X.w) a ws := by
    rcases hd with ⟨kvs, hd, hks⟩ | ⟨hd, hk⟩
    · obtain ⟨z, lo, ws, rel, dd⟩ := dk_rd I.hok hd
      exact ⟨lo, ws, rel.keys.symm.trans hks, by rw [← rel.length]; exact z, dd⟩
    · subst hk
      obtain ⟨z, y, xs, rr, o, es, ep, h1, h2, h3, h4, h5⟩ := (show ObjOk X.prog X.w H s.heap a (.dT []) from rd_of I.hok hd)
      cases rr
      refine ⟨y, [], rfl, Nat.zero_le _, o, es, ep, h1, h2, h3, ?_, ?_, .nil⟩
      · have : es = #[] := by
          apply Array.ext'
          simpa using h4
        subst this
        intro e m
        simp at m
      · have : es.toList = [] := by simpa using h4
        rw [this]
        exact .nil
  obtain ⟨ep, at0⟩ := dd.dictAt
  have el : ws.length = ks.length := by
    have e := congrArg List.length hkeys
    rwa [List.length_map, List.length_map] at e
  refine Calls.call_function_entry PyProof.Rows.kind_sorted PyProof.Rows.plain_sorted PyProof.Rows.entry_sorted (PyProof.Rows.args_sorted1 _) ?_
  unfold Builtin.«sorted»
  refine wpAny_bind (m := checkCount "sorted" 1 1 _) (wpAny_pure (wpAny_bind (PySem.W.kdu_collect (A := X.A.in1) (PySem.W.kdl_dict (knd := mixKind X.prog X.w) (kvs := ws) (ep := ep) lo) (I.ok.hd hcalm) at0 hw fun hp tk acc kk ha => ?_)))
  have al : acc.toList.length = ks.length := by rw [Array.length_toList, ha.1, el]
  have ai : IntsAre acc.toList ks := ints_each al fun j v e => by
    obtain ⟨k, x, e1, e2⟩ := ha.2 j v (by rw [← Array.getElem?_toList]; exact e)
    have e3 : (ws.map (·.1))[j]? = some k := by rw [List.getElem?_map, e1]; rfl
    rw [hkeys, List.getElem?_map] at e3
    obtain ⟨y, e4, e5⟩ := Option.map_eq_some_iff.mp e3
    subst e5
    rcases keyIs_shape (show keyIs (Sum.inl y) v = true from e2) with ⟨i, t, ek, ev⟩ | ⟨z, t, ek, ev⟩
    · cases ek
      exact ⟨y, t, e4, ev⟩
    · cases ek
  have hz : acc.toList.length ≤ sizeLine := by rw [al, ← el]; exact hw
  have J : Inv X pins σ H { s with heap := hp, toks := tk } := I.kept kk
  refine wpAny_bind (wpAny_newList ?_ hz)
  have oL : (hp.push (seqObj "list" acc.toList.toArray 0)).get? hp.objs.size = some (seqObj "list" acc.toList.toArray 0) := Heap.get?_push_size _ rfl
  show wpAny _ _ _ _ _ { s with heap := hp.push (seqObj "list" acc.toList.toArray 0), toks := tk }
  refine wpAny_bind (wpAny_holding (wpAny_call_entry PyProof.Rows.slot_list_sort ⟨_, oL, rfl⟩ PyProof.Rows.entry_list_sort
    (SrtO.list_sort_ord (s := { s with heap := hp.push (seqObj "list" acc.toList.toArray 0), toks := tk }) SrtO.swo_int oL hz (fun h2 => SrtO.ints_sortable ai h2) fun out h1 h2 => ⟨_, rfl, ?_⟩) (PyProof.Rows.args_list_sort _)))
  obtain ⟨k1, k2, k3⟩ := SrtO.ints_out ai h1 h2
  obtain ⟨e', he'⟩ := PyProof.Rows.sortedHeap_at (vs := acc.toList) (out := out.toArray) oL
  have hlen : ((out.map SrtO.iv).map V.int).length ≤ sizeLine := by
    rw [List.length_map, k2.length_eq, ← al]
    exact hz
  refine wpAny_pure ⟨_, rfl, .ref hp.objs.size, upd H hp.objs.size (.lst ((out.map SrtO.iv).map V.int)), J.laid (t' := tk) (fun b u e => ?_) (Nat.le_refl _) ⟨hlen, out, e', vals_of_ints k1, he'⟩, rfl, q _ _ k2 k3 (J.hok.fresh (Nat.le_refl _))⟩
  have hb : b < hp.objs.size := Heap.lt_size e
  rw [PyProof.Rows.sortedHeap_old (Nat.ne_of_lt hb) (by rw [size_push']; exact Nat.lt_succ_of_lt hb)]
  exact Heap.get?_push_of_some _ e
end
def intK : List (Key × PD) → Option (List Int)
  | [] => some []
  | (.inl i, _) :: r => (intK r).map (i :: ·)
  | (.inr _, _) :: _ => none
def dkI : O → Option (List Int)
  | .fz (.dict []) => some []
  | x => match dicK x with
    | some ds => intK ds
    | none => none
theorem intK_eq : ∀ {ds : List (Key × PD)} {ks : List Int}, intK ds = some ks → ds.map (·.1) = ks.map Sum.inl
  | [], ks, e => by cases e; rfl
  | (.inl i, d) :: r, ks, e => by
    obtain ⟨z, e1, e2⟩ := Option.map_eq_some_iff.mp (show (intK r).map (i :: ·) = some ks from e)
    subst e2
    rw [List.map_cons, List.map_cons, intK_eq e1]
  | (.inr _, _) :: _, _, e => by cases e
theorem RepK.keys1 {K : Frag} {F : Hp} : ∀ {vs : List (Key × V)} {ds : List (Key × PD)}, RepK K F vs ds → vs.map (·.1) = ds.map (·.1)
  | _, _, .nil => rfl
  | _, _, .cons _ r => congrArg (_ :: ·) (RepK.keys1 r)
theorem Vw.dkI {k : Kc} {F H : Hp} {S : List Addr} {v : V} {o : O} {ks : List Int} (h : Vw k F H S v o) (s : FLe F H) (e : FM.dkI o = some ks) : ∃ a, v = .ref a ∧ ((∃ kvs : List (Key × V), Rd H a (.dK kvs) ∧ kvs.map (·.1) = ks.map Sum.inl) ∨ (Rd H a (.dT []) ∧ ks = [])) := by
  unfold FM.dkI at e
  split at e
  · cases e
    obtain ⟨T, _, q⟩ := h
    cases q with
    | fz r =>
      cases r with
      | @dic a kvs ds _ h1 h2 h3 =>
        have h3 := PyData.dict.inj h3
        cases ds with
        | nil =>
          cases h2
          exact ⟨_, rfl, .inl ⟨[], rd_le s h1, rfl⟩⟩
        | cons p r => cases h3
      | @dit a kvs ds _ h1 h2 h3 =>
        have h3 := PyData.dict.inj h3
        cases ds with
        | nil =>
          cases h2
          exact ⟨_, rfl, .inr ⟨rd_le s h1, rfl⟩⟩
        | cons p r => cases h3
  · split at e
    · rename_i ds e1
      obtain ⟨a, vs, rfl, h1, h2⟩ := h.dicK s e1
      exact ⟨a, rfl, .inl ⟨vs, h1, by rw [h2.keys1]; exact intK_eq e⟩⟩
    · cases e
def rSortedV (K : Frag) : List V → Hp → VK → Prop := fun vs H Q => rSortedU K vs H Q ∨ rSortDU vs H Q
theorem cr_sortedV {X : Cx} (hc : X.calm = true) (hu : X.A.units + 64 < cLine) : CallR X (.builtin "sorted") (rSortedV X.K) := by
  intro pins s σ H vs us Q I r h
  rcases h with h | h
  · exact cr_sortedU hu pins s σ H vs us Q I r h
  · exact cr_sortDU hc pins s σ H vs us Q I r h
def oSortV : List O → Option O
  | [x] => match oSortU [x] with
    | some o => some o
    | none => match dkI x with
      | some ks => some (.lst ((sortI ks).map .int))
      | none => none
  | _ => none
theorem cn_sortV {k : Kc} : CbN k (rSortedV k.K) oSortV := by
  intro F H S xs os o Q f off th ws e h
  unfold oSortV at e
  split at e
  · split at e
    · rename_i z e1
      cases e
      exact .inl (cn_sortU F H S xs _ o Q f off th ws e1 h)
    · cases ws with
      | cons w ws =>
        cases ws
        split at e
        · rename_i ks e2
          cases e
          obtain ⟨a, rfl, g⟩ := w.dkI f e2
          refine .inr ⟨a, ks, rfl, g, fun ys p hp hs hn => ?_⟩
          rw [sorted_unique (hp.trans (sortI_perm ks).symm) hs (sortI_sorted ks)]
          exact own_list f (ints_reps (sortI ks)) h p hn
        · cases e
  · cases e
theorem oSortV_eq {x : O} : oSortV [x] = match oSortU [x] with
    | some o => some o
    | none => match dkI x with
      | some ks => some (.lst ((sortI ks).map .int))
      | none => none := rfl
theorem oSortV_U {x : O} {o : O} (e : oSortU [x] = some o) : oSortV [x] = some o := by
  rw [oSortV_eq, e]
/-! ### sorted(set(xs)) -/
end FM
namespace FM
open PySem PySem.Spec L2 PyProof.Rows
/-! ### simp words for instances -/
section
variable {ρ : List O} {Q : O → List O → Prop} {nx bk ct : List O → Prop} {rt : O → List O → Prop} {q : QE} {m : M O} {a : MS} {ml : M (List O)} {c i : Nat} {x : Str}
@[simp] theorem qFld_eq : qFld c i x ρ = match qVar i ρ with
    | some (.ins c' fs) => if c' = c then match fs.lookup x with
        | some .dead => none
        | r => r
      else none
    | _ => none := rfl
@[simp] theorem wM_meth {f : List O → FR} {nm : Str} {as : List (Option Nat)} : wM (mMeth c i nm f as ml ρ) Q = ∃ fs, qVar i ρ = some (.ins c fs) ∧ fs.lookup nm = none ∧ wM (mCall f (some i :: as) (mRef i ml) ρ) Q := by
  apply propext
  unfold mMeth
  constructor
  · intro h
    split at h
    · rename_i c' fs e
      split at h
      · rename_i hc
        obtain ⟨rfl, hc⟩ := hc
        exact ⟨fs, e, hc, h⟩
      · exact h.elim
    · exact h.elim
  · rintro ⟨fs, e, h1, h⟩
    rw [e]
    show wM (if c = c ∧ List.lookup nm fs = none then mCall f (some i :: as) (mRef i ml) ρ else .bad) Q
    rw [if_pos ⟨rfl, h1⟩]
    exact h
@[simp] theorem wM_make {f : List O → FR} : wM (mMake c f ml ρ) Q = wM (ml ρ) fun xs ρ1 => wF (f (.ins c [] :: xs)) fun o outs => o = .fz .none ∧ ∃ o1 r, outs = o1 :: r ∧ Q o1 ρ1 := by
  unfold mMake
  cases e : ml ρ with
  | ok xs ρ1 =>
    simp only [wM_ok]
    cases e2 : f (.ins c [] :: xs) with
    | ret o outs =>
      cases o with
      | fz d =>
        cases d with
        | none => cases outs <;> simp [wM, wF]
        | _ => simp [wM, wF]
      | _ => simp [wM, wF]
    | _ => simp [wM, wF]
  | _ => rfl
@[simp] theorem wM_mtF {f : List PD → List PD → Option (PD × List PD)} {qs : List O → Option (List O)} : wM (mMtF c i x f qs ρ) Q = ∃ fs, qVar i ρ = some (.ins c fs) ∧ ∃ ds, fs.lookup x = some (.lst ds) ∧ ∃ xs, qs ρ = some xs ∧ ∃ zs, fzs xs = some zs ∧ ∃ d ds', f ds zs = some (d, ds') ∧ Q (.fz d) (ρ.set i (.ins c (pfO x (.lst ds') fs))) := by
  unfold mMtF
  cases e : qVar i ρ with
  | none => simp [wM]
  | some o =>
    cases o with
    | ins c' fs =>
      by_cases h1 : c' = c
      · subst h1
        cases h2 : fs.lookup x with
        | none => simp [h2, wM]
        | some o =>
          cases o with
          | lst ds =>
            cases h3 : qs ρ with
            | none => simp [h2, wM]
            | some xs =>
              cases h4 : fzs xs with
              | none => simp [h2, h4, wM]
              | some zs =>
                cases h5 : f ds zs with
                | none => simp [h2, h4, h5, wM]
                | some r =>
                  obtain ⟨d, ds'⟩ := r
                  simp [h2, h4, h5, wM]
                  exact ⟨fun h => ⟨d, ds', ⟨rfl, rfl⟩, h⟩, fun ⟨_, _, ⟨e1, e2⟩, h⟩ => by rw [e1, e2]; exact h⟩
          | _ => simp [h2, wM]
      · simp [h1, wM]
    | _ => simp [wM]
@[simp] theorem wS_setF : wS (sSetF c i x m ρ) nx rt bk ct = wM (m ρ) fun o ρ1 => ∃ fs, qVar i ρ1 = some (.ins c fs) ∧ fs.length < 1000 ∧ nx (ρ1.set i (.ins c (pfO x o fs))) := by
  unfold sSetF
  cases e : m ρ with
  | ok o ρ1 =>
    simp only [wM_ok]
    cases e2 : qVar i ρ1 with
    | none => simp [wS]
    | some z =>
      cases z with
      | ins c' fs =>
        by_cases h1 : c' = c
        · subst h1
          by_cases h2 : fs.length < 1000 <;> simp [h2, wS]
        · simp [h1, wS]
      | _ => simp [wS]
  | _ => rfl
end
@[simp] theorem frzFs_nil : frzFs [] = some [] := rfl
theorem oSortV_i {ns : List Int} : oSortV [.fz (.list (ns.map .int))] = some (.lst ((sortI ns).map .int)) := by
  have e2 : intsD (ns.map PyData.int) = some ns := intsD_map ns
  apply oSortV_U
  show (match intsD (ns.map PyData.int) with
    | some ns => some (O.lst ((sortI ns).map .int))
    | none => if sortC (ns.map PyData.int) then some (O.lst (sortD (ns.map PyData.int))) else none) = _
  rw [e2]
theorem oSortV_d {ks : List Int} {x : O} (e1 : oSortU [x] = none) (e2 : dkI x = some ks) : oSortV [x] = some (.lst ((sortI ks).map .int)) := by
  rw [oSortV_eq, e1]
  simp only
  rw [e2]
/-! ### walks of ints: what is kept -/
theorem oIn_il {i : Int} {l : List Int} : oIn (.fz (.int i)) (.lst (l.map .int)) = some (.fz (.bool (decide (i ∈ l)))) := oIn_ints
/-! ### a list's item left out -/
/-- a few ints, none twice -/
def okW (m : Int) (W : List Int) : Prop := W.Nodup ∧ ∀ x ∈ W, 0 ≤ x ∧ x < m
theorem len_le_of_sub : ∀ {l r : List Int}, l.Nodup → (∀ x ∈ l, x ∈ r) → l.length ≤ r.length
  | [], _, _, _ => Nat.zero_le _
  | a :: l, r, h, s => by
    have n1 := List.nodup_cons.mp h
    have ma : a ∈ r := s a List.mem_cons_self
    have := len_le_of_sub (r := r.erase a) n1.2 fun x m => by
      have hx := s x (List.mem_cons_of_mem _ m)
      exact (List.mem_erase_of_ne (fun e => n1.1 (by rw [← e]; exact m))).mpr hx
    rw [List.length_erase_of_mem ma] at this
    have hp : 0 < r.length := List.length_pos_of_mem ma
    rw [List.length_cons]
    omega
theorem okW.len {m : Int} {W : List Int} (h : okW m W) : W.length ≤ m.toNat := by
  have := len_le_of_sub (r := (List.range m.toNat).map fun k : Nat => (k : Int)) h.1 fun x hx => by
    obtain ⟨h1, h2⟩ := h.2 x hx
    exact List.mem_map.mpr ⟨x.toNat, List.mem_range.mpr (by omega), by omega⟩
  simpa using this
theorem okW.sub {m : Int} {W V : List Int} (h : okW m W) (s : V.Sublist W) : okW m V := ⟨h.1.sublist s, fun x hx => h.2 x (s.subset hx)⟩
theorem okW.snoc {m : Int} {W : List Int} {x : Int} (h : okW m W) (hx : x ∉ W) (h1 : 0 ≤ x ∧ x < m) : okW m (W ++ [x]) :=
  ⟨List.nodup_append.mpr ⟨h.1, by simp, fun a ha b hb e => hx (by rw [← List.mem_singleton.mp hb, ← e]; exact ha)⟩, fun y hy => by
    rcases List.mem_append.mp hy with q | q
    · exact h.2 y q
    · rw [List.mem_singleton.mp q]; exact h1⟩
end FM
namespace FM
open PySem PySem.Spec L2 PyProof.Rows
/-! ### simp words for targets that take what is own -/
section
variable {ρ : List O} {i n : Nat} {o : O} {f : QT} {g : List O → List O → Option (List O)} {ds : List PD} {r : List O} {z : Str}
@[simp] theorem tName_eq : tName i o ρ = some (ρ.set i o) := rfl
@[simp] theorem tNil2_eq : tNil2 [] ρ = some ρ := rfl
@[simp] theorem tCons2_eq : tCons2 f g (o :: r) ρ = match f o ρ with
    | some ρ1 => g r ρ1
    | none => none := rfl
@[simp] theorem tTup_fz : tTup n g (.fz (.tuple ds)) ρ = if ds.length = n then g (ds.map .fz) ρ else none := rfl
@[simp] theorem tTup_ntp : tTup n g (.ntp r) ρ = if r.length = n then g r ρ else none := rfl
end
/-! ### names of the module -/
/-! ### comprehensions with a test that has effects -/
end FM
namespace FM
open PySem PySem.Spec L2 PyProof.Rows
/-! ### a tuple of the module's own top -/
/-! ### list.index of ints -/
section
variable {k : Kc} {ta tb : TE} {qa qb : QE}
def oIdx (x y : O) : Option O := match seqL x, y with
  | some ds, .fz (.int i) => match intsD ds with
    | some ns => match fstAt i ns with
      | some j => some (.fz (.int ((j : Nat) : Int)))
      | none => none
    | none => none
  | _, _ => none
@[simp] theorem oIdx_l {l : List Int} {i : Int} : oIdx (.fz (.list (l.map .int))) (.fz (.int i)) = match fstAt i l with
      | some j => some (.fz (.int ((j : Nat) : Int)))
      | none => none := by
  have e : intsD (l.map PyData.int) = some l := intsD_map l
  unfold oIdx
  show (match intsD (l.map PyData.int) with | some ns => _ | none => none) = _
  rw [e]
end
/-! ### list.insert -/
section
variable {k : Kc}
end
end FM
namespace FM
open PySem PySem.Spec L2 PyProof.Rows
/-! ### enumerate of a list or a tuple -/
section
variable {k : Kc} {P : Hp → Hp → Prop} {a : Addr} {vs : List V} {ds : List PD}
end
end FM
namespace FM
open PySem PySem.Spec L2 PyProof.Rows
open PySem.W (dataLe alike AllAlike Sortable EachIs)
/-! ### dicts whose keys are tuples: store, sorted -/
def tkD (z : List Key) : PD := .tuple (z.map keyD)
theorem reps_keys {K : Frag} {F : Hp} : ∀ z : List Key, Reps K F (z.map kV) (z.map keyD)
  | [] => .nil
  | .inl i :: r => .cons (.int i) (reps_keys r)
  | .inr x :: r => .cons (.str x) (reps_keys r)
section
variable {X : Cx}
end
end FM
namespace FM
open PySem PySem.Spec L2 PyProof.Rows
open PySem.W (dataLe alike AllAlike Sortable EachIs)
/-- tuples of ints and texts are taken into what is frozen -/
def adp (F H : Hp) (bs : List Addr) : Hp := fun a => if a ∈ bs then H a else F a
theorem adp_xt {F H : Hp} {bs : List Addr} (f : FLe F H) (g : ∀ a ∈ bs, ∃ u, gnd u ∧ H a = some u) : Xt F H (adp F H bs) H := by
  refine ⟨Same.refl _, fun a u e => ?_, fun a u e => ?_, fun a u e => ?_⟩
  · unfold adp
    by_cases m : a ∈ bs
    · rw [if_pos m]
      obtain ⟨w, ⟨z, ez⟩, ew⟩ := g a m
      rcases f a u e with q | ⟨_, o, q⟩
      · exact q
      · rw [ew, ez] at q; cases q
    · rw [if_neg m]; exact e
  · unfold adp at e
    by_cases m : a ∈ bs
    · rw [if_pos m] at e; exact .inl e
    · rw [if_neg m] at e; exact f a u e
  · unfold adp at e
    by_cases m : a ∈ bs
    · rw [if_pos m] at e
      obtain ⟨w, gw, ew⟩ := g a m
      rw [ew] at e
      cases e
      exact .inr (.inr ⟨gw, ew⟩)
    · rw [if_neg m] at e; exact .inl e
theorem RepT.len' {K : Frag} {F : Hp} : ∀ {vs : List (List Key × V)} {ds : List (List Key × PD)}, RepT K F vs ds → vs.length = ds.length
  | _, _, .nil => rfl
  | _, _, .cons _ r => congrArg (· + 1) (RepT.len' r)
/-! store -/
theorem RepT.any {K : Frag} {F : Hp} (x : List Key) : ∀ {vs : List (List Key × V)} {ds : List (List Key × PD)}, RepT K F vs ds → (vs.any fun kv => decide (kv.1 = x)) = (ds.any fun kv => decide (kv.1 = x))
  | _, _, .nil => rfl
  | _, _, .cons h r => by simp only [List.any_cons, RepT.any x r]
theorem RepT.maps {K : Frag} {F : Hp} {x : List Key} {v : V} {d : PD} (h0 : Rep K F v d) : ∀ {vs : List (List Key × V)} {ds : List (List Key × PD)}, RepT K F vs ds → RepT K F (vs.map fun kv => if kv.1 = x then (kv.1, v) else kv) (ds.map fun kv => if kv.1 = x then (kv.1, d) else kv)
  | _, _, .nil => .nil
  | (k, w) :: _, (_, e) :: _, .cons h r => by
    have ih := RepT.maps (x := x) h0 r
    simp only [List.map_cons]
    by_cases c : k = x
    · rw [if_pos c, if_pos c]; exact .cons h0 ih
    · rw [if_neg c, if_neg c]; exact .cons h ih
theorem RepT.snoc {K : Frag} {F : Hp} {x : List Key} {v : V} {d : PD} (h0 : Rep K F v d) : ∀ {vs : List (List Key × V)} {ds : List (List Key × PD)}, RepT K F vs ds → RepT K F (vs ++ [(x, v)]) (ds ++ [(x, d)])
  | _, _, .nil => .cons h0 .nil
  | _, _, .cons h r => .cons h (RepT.snoc h0 r)
theorem RepT.put {K : Frag} {F : Hp} {x : List Key} {v : V} {d : PD} {vs : List (List Key × V)} {ds : List (List Key × PD)} (r : RepT K F vs ds) (h0 : Rep K F v d) : RepT K F (putK vs x v) (putD ds x d) := by
  unfold putK putD
  rw [r.any x]
  split
  · exact RepT.maps h0 r
  · exact RepT.snoc h0 r
section
variable {k : Kc} {E : XK}
end
section
variable {ρ : List O} {nx bk ct : List O → Prop} {rt : O → List O → Prop} {m : M O} {qi : QE}
end
end FM
namespace FM
open PySem PySem.Spec L2 PyProof.Rows
/-! ### a tuple, many times over -/
end FM
namespace FM
open PySem PySem.Spec L2 PyProof.Rows
/-! ### tuple(range(n)) -/
end FM
namespace FM
open PySem PySem.Spec L2 PyProof.Rows
/-! ### lists of one's own lists: made by a comprehension, an element's method -/
section
variable {k : Kc} {E : XK}
/-! ### d.get(k); list.index of truths -/
def oGet1 (x y : O) : Option O := (oLook x y).map fun r => .fz (r.getD .none)
theorem tev_get1 {td ty : TE} {qa qb : QE} (ha : TEv k td qa) (hb : TEv k ty qb) : TEv k (tDGet1 td ty) (qOp oGet1 qa qb) := by
  intro F H σ ρ S o Q q e h
  unfold qOp at e
  cases e1 : qa ρ with
  | none => rw [e1] at e; cases e
  | some x =>
    rw [e1] at e
    cases e2 : qb ρ with
    | none => simp only [e2] at e; cases e
    | some y =>
      simp only [e2] at e
      unfold oGet1 at e
      obtain ⟨r, e3, e4⟩ := Option.map_eq_some_iff.mp e
      subst e4
      refine ha F H σ ρ S x _ q e1 fun v F1 H1 x1 w1 => ?_
      have isd : ∃ a, v = .ref a ∧ IsD H1 a := by
        unfold oLook at e3
        split at e3
        · rename_i ds kk e5 e6
          obtain ⟨a, vs, rfl, h1, h2⟩ := w1.dicK x1.fle e5
          exact ⟨a, rfl, .inl ⟨_, h1⟩⟩
        · split at e3
          · rename_i ds kk e5 e6
            obtain ⟨a, vs, rfl, h1, h2⟩ := w1.dicT x1.fle e5
            exact ⟨a, rfl, .inr ⟨_, h1⟩⟩
          · cases e3
      obtain ⟨a, rfl, isd⟩ := isd
      refine ⟨a, rfl, isd, hb F1 H1 σ ρ S _ _ (q.xt x1) e2 fun w F2 H2 x2 w2 => ?_⟩
      obtain ⟨a', z, ea, g, r2⟩ := look_ok (w1.xt x2) w2 x2.fle e3
      cases ea
      refine ⟨z, g, ?_⟩
      rcases r2 with ⟨r2, r3⟩ | ⟨d, v, r2, r3, r4⟩
      · subst r2 r3
        exact h _ F2 H2 (x1.trans x2) (.fz .non)
      · subst r2 r3
        exact h _ F2 H2 (x1.trans x2) (.fz r4)
def fstB (b : Bool) : List Bool → Option Nat
  | [] => none
  | x :: r => if x = b then some 0 else (fstB b r).map (· + 1)
def oIdxB (x y : O) : Option O := match seqL x, y with
  | some ds, .fz (.bool b) => match boolsD ds with
    | some ns => match fstB b ns with
      | some j => some (.fz (.int ((j : Nat) : Int)))
      | none => none
    | none => none
  | _, _ => none
@[simp] theorem oIdxB_l {l : List Bool} {b : Bool} : oIdxB (.fz (.list (l.map .bool))) (.fz (.bool b)) = match fstB b l with
      | some j => some (.fz (.int ((j : Nat) : Int)))
      | none => none := by
  have e : boolsD (l.map PyData.bool) = some l := boolsD_map l
  unfold oIdxB
  show (match boolsD (l.map PyData.bool) with | some ns => _ | none => none) = _
  rw [e]
@[simp] theorem oIdxB_o {l : List Bool} {b : Bool} : oIdxB (.lst (l.map .bool)) (.fz (.bool b)) = match fstB b l with
      | some j => some (.fz (.int ((j : Nat) : Int)))
      | none => none := by
  have e : boolsD (l.map PyData.bool) = some l := boolsD_map l
  unfold oIdxB
  show (match boolsD (l.map PyData.bool) with | some ns => _ | none => none) = _
  rw [e]
end
end FM
namespace FM
open PySem PySem.Spec L2 PyProof.Rows
open PySem.W (dataLt alike)
section
variable {k : Kc} {E : XK}
/-! ### a method of an element of a field's own list of lists -/
/-! ### max(.., default=..), the list with effects -/
/-! ### dict(d) -/
def rDictC : List V → Hp → VK → Prop := fun xs H Q => ∃ (a : Addr) (kvs : List (Key × V)), xs = [.ref a] ∧ Rd H a (.dK kvs) ∧ ∀ p, H p = none → Q (.ref p) (upd H p (.dK kvs))
theorem call_dictC {X : Cx} : CallR X (.type "dict") rDictC := call_dictD
def oDictC : List O → Option O
  | [x] => (dicK x).map .dic
  | _ => none
theorem own_dicK {F H : Hp} {vs : List (Key × V)} {ds : List (Key × PD)} {Q : VK} (f : FLe F H) (r : RepK k.K F vs ds) (h : ∀ v F' H' T, Xt F H F' H' → Own k F' H' v (.dic ds) T → Fresh F' H H' T → Q v H') : ∀ p, H p = none → Q (.ref p) (upd H p (.dK vs)) := fun p hp =>
  have x := Xt.own (o := .dK vs) f hp
  h _ _ _ [p] x (.dic (.inl upd_same) r) ⟨List.nodup_cons.mpr ⟨List.not_mem_nil, .nil⟩, (fun a m => by rw [List.mem_singleton.mp m]; exact hp), (fun a m => by rw [List.mem_singleton.mp m]; exact fle_none f hp), (fun a m o u z => by rw [List.mem_singleton.mp m, upd_same] at z; cases z)⟩
theorem cn_dict : CbN k rDictC oDictC := by
  intro F H S xs os o Q f off th ws e h
  unfold oDictC at e
  split at e
  · cases ws with
    | cons w ws =>
      cases ws
      obtain ⟨ds, es, eo⟩ := Option.map_eq_some_iff.mp e
      subst eo
      obtain ⟨a, vs, rfl, g1, g2⟩ := w.dicK f es
      exact ⟨a, vs, rfl, g1, own_dicK f g2 h⟩
  · cases e
/-! ### a > b of alike data -/
/-! ### a field of a slot's instance, taken out -/
/-! ### a method of an element of one's own tuple -/
end
end FM
namespace FM
open PySem PySem.Spec L2 PyProof.Rows
/-! ### simp words for FM63 -/
section
variable {ρ : List O} {Q : O → List O → Prop} {c i j : Nat} {x : Str} {ml : M (List O)}
end
@[simp] theorem oDictC_d {ds : List (Key × PD)} : oDictC [.dic ds] = some (.dic ds) := rfl
@[simp] theorem oIx_nst {os : List O} {i : Int} : oIx (.nst os) (.fz (.int i)) = atI os i := rfl
@[simp] theorem oIx_ntp {os : List O} {i : Int} : oIx (.ntp os) (.fz (.int i)) = atI os i := rfl
theorem oIn_dic {ds : List (Key × PD)} {i : Int} : oIn (.fz (.int i)) (.dic ds) = some (.fz (.bool (lk ds (.inl i)).isSome)) := rfl
theorem oNin_dic {ds : List (Key × PD)} {i : Int} : oNin (.fz (.int i)) (.dic ds) = some (.fz (.bool (!(lk ds (.inl i)).isSome))) := rfl
end FM
namespace FM
open PySem PySem.Spec L2 PyProof.Rows
/-! ### list.extend by a list that is one's own -/
section
variable {k : Kc} {E : XK}
end
section
variable {i : Nat} {ml : M (List O)} {ρ : List O} {Q : O → List O → Prop}
end
end FM
namespace FM
open PySem PySem.Spec L2 PyProof.Rows
/-! ### a op b op c -/
section
variable {k : Kc} {ta tb tc : TE} {qa qb qc : QE} {r r' : R2} {f g : O → O → Option O}
end
/-! ### len(set(xs)), of ints -/
end FM
namespace FM
open PySem PySem.Spec L2 PyProof.Rows
/-! ### a dict of the module from texts to ints -/
theorem ent_find {z : Str} : ∀ {l : List DictEntry} {kvs : List (Str × Int)}, l.map entSI = kvs.map some →
    (match kvs.lookup z with
      | some i => ∃ e t, l.find? (·.key.isStr z) = some e ∧ e.val = .int i t
      | none => l.find? (·.key.isStr z) = none) ∧ l.any (·.refKey) = false
  | [], [], _ => ⟨rfl, rfl⟩
  | [], _ :: _, h => by cases h
  | _ :: _, [], h => by cases h
  | e :: l, (x, i) :: kvs, h => by
    have h1 : entSI e :: l.map entSI = some (x, i) :: kvs.map some := h
    injection h1 with h2 h3
    obtain ⟨r1, r2⟩ := ent_find (z := z) h3
    unfold entSI at h2
    split at h2
    · rename_i x' t i' t' ek ev
      cases h2
      have hs : e.key.isStr z = decide (z = x) := by
        rw [ek]
        show (x == z) = _
        rw [Bool.eq_iff_iff, decide_eq_true_eq, beq_iff_eq]
        exact eq_comm
      have hrk : e.refKey = false := by
        unfold DictEntry.refKey
        rw [ek]
      rw [List.any_cons, hrk, r2]
      refine ⟨?_, rfl⟩
      rw [List.lookup_cons, List.find?_cons, hs]
      by_cases c : z = x
      · subst c
        simp
        exact ⟨t', ev⟩
      · have c2 : (z == x) = false := by
          cases q : z == x with
          | false => rfl
          | true => exact absurd (eq_of_beq q) c
        rw [c2, decide_eq_false c]
        exact r1
    · cases h2
structure GD (K : Frag) (w : World) (x : Str) (kvs : List (Str × Int)) : Prop where
  kd : ∃ es n, KDict K w (He.ga K x) es n
  vals : gdB K (He.ga K x) kvs = true
theorem GD.at_ {K : Frag} {w : World} {x : Str} {kvs : List (Str × Int)} (h : GD K w x kvs) (z : Str) : ∃ r, PySem.W.nsIn K (He.ga K x) z = some r ∧ match kvs.lookup z with
    | some i => ∃ t, r = some (.int i t)
    | none => r = none := by
  obtain ⟨es, n, kd⟩ := h.kd
  have hv := h.vals
  unfold gdB at hv
  rw [kd.at_] at hv
  have hv := of_decide_eq_true hv
  obtain ⟨r1, r2⟩ := ent_find (z := z) hv
  unfold PySem.W.nsIn
  rw [kd.at_]
  simp only
  cases e : kvs.lookup z with
  | some i =>
    rw [e] at r1
    obtain ⟨en, t, q1, q2⟩ := r1
    rw [q1]
    exact ⟨_, rfl, t, by rw [q2]⟩
  | none =>
    rw [e] at r1
    rw [r1, r2]
    exact ⟨_, rfl, rfl⟩
end FM
namespace FM
open PySem PySem.Spec L2 PyProof.Rows
/-! ### a head that asks for one setting: both ways are run -/
end FM
namespace FM
open PySem PySem.Spec L2 PyProof.Rows
/-! ### str of data with dicts in it -/
mutual
/-- what is read there; no dict of it is the modules' table -/
inductive RdM (h : Heap) : Value → PD → Prop
  | non : RdM h .none .none
  | bl (b : Bool) : RdM h (.bool b) (.bool b)
  | int (i : Int) (t : Tok) : RdM h (.int i t) (.int i)
  | str (x : Str) (t : Tok) : RdM h (.str x t) (.str x)
  | lst {a : Addr} {o : Obj} {us : Array Value} {n : Nat} {ds : List PD} : h.get? a = some o → o.cls = .type "list" → o.data = .seq us n → RdMs h us.toList ds → RdM h (.ref a) (.list ds)
  | tup {a : Addr} {o : Obj} {us : Array Value} {n : Nat} {ds : List PD} : h.get? a = some o → o.cls = .type "tuple" → o.data = .seq us n → RdMs h us.toList ds → RdM h (.ref a) (.tuple ds)
  | dic {a : Addr} {o : Obj} {es : Array DictEntry} {n : Nat} {kvs : List (PD × PD)} : h.get? a = some o → o.cls = .type "dict" → o.data = .dict es n → (a == sysModules) = false →
      RdMs h (es.toList.map (·.key)) (kvs.map (·.1)) → RdMs h (es.toList.map (·.val)) (kvs.map (·.2)) → RdM h (.ref a) (.dict kvs)
inductive RdMs (h : Heap) : List Value → List PD → Prop
  | nil : RdMs h [] []
  | cons {v : Value} {d : PD} {vs : List Value} {ds : List PD} : RdM h v d → RdMs h vs ds → RdMs h (v :: vs) (d :: ds)
end
mutual
theorem RdM.reads {h : Heap} : ∀ {v : Value} {d : PD}, RdM h v d → ∃ as, Reads h v d as
  | _, _, .non => ⟨_, .none⟩
  | _, _, .bl b => ⟨_, .bool b⟩
  | _, _, .int i t => ⟨_, .int i t⟩
  | _, _, .str x t => ⟨_, .str x t⟩
  | _, _, .lst h1 h2 h3 r => let ⟨_, q⟩ := r.reads; ⟨_, .list h1 h2 h3 q⟩
  | _, _, .tup h1 h2 h3 r => let ⟨_, q⟩ := r.reads; ⟨_, .tuple h1 h2 h3 q⟩
  | _, _, .dic h1 h2 h3 _ r r' => let ⟨_, q⟩ := r.reads; let ⟨_, q'⟩ := r'.reads; ⟨_, .dict h1 h2 h3 q q'⟩
theorem RdMs.reads {h : Heap} : ∀ {vs : List Value} {ds : List PD}, RdMs h vs ds → ∃ as, ReadsAll h vs ds as
  | _, _, .nil => ⟨_, .nil⟩
  | _, _, .cons r rs => let ⟨_, q⟩ := r.reads; let ⟨_, q'⟩ := rs.reads; ⟨_, .cons q q'⟩
end
section
variable {prog : Program} {w : World} {h : Heap}
theorem RdM.top {a : Addr} {d : PD} {n : Nat} {bs : List Addr} (r : RdM h (.ref a) d) (hn : n ≤ d.depth) (hb : ReadAtMost h n bs) : ReadAtMost h d.depth (a :: bs) :=
  let ⟨_, q⟩ := r.reads
  ReadAtMost.cons q hn hb
end
end FM
namespace FM
open PySem PySem.Spec L2 PyProof.Rows
section
variable {X : Cx} {pins : List (Addr × Obj)} {σ : L2.St} {H : Hp} {s : Shared}
end
/-! ### the rule and the word -/
section
variable {X : Cx}
end
end FM
namespace FM
open PySem PySem.Spec L2 PyProof.Rows
/-! ### a dict's display with keys of both kinds; str of anything -/
section
variable {k : Kc} {E : XK}
end
section
variable {ρ : List O} {Q : O → List O → Prop} {ml : M (List O)}
end
end FM
namespace FM
open PySem PySem.Spec L2 PyProof.Rows
/-! ### a tuple of anything against the empty one -/
end FM
namespace FM
open PySem PySem.Spec L2 PyProof.Rows
/-! ### tuple(xs) whose object is known -/
/-! ### .count of such a tuple -/
section
variable {k : Kc} {ta tb : TE} {qa qb : QE}
/-! ### a list of two others, one's own -/
/-! ### a, b = p, p a tuple of what is known for good: it stays -/
def freeO : O → Bool
  | .fz _ => true
  | .ctp _ => true
  | _ => false
theorem Own.free {k : Kc} {F H : Hp} {v : V} {o : O} {S : List Addr} (w : Own k F H v o S) (h : freeO o = true) : S = [] := by
  cases w <;> first | rfl | cases h
@[simp] theorem freeO_fz {d : PD} : freeO (.fz d) = true := rfl
@[simp] theorem freeO_ctp {d : List PD} : freeO (.ctp d) = true := rfl
@[simp] theorem refO_ctp {ds : List PD} : refO (.ctp ds) = true := rfl
@[simp] theorem toPD_ctp {ds : List PD} : toPD (.ctp ds) = some (.tuple ds) := rfl
@[simp] theorem seqT_ctp {ds : List PD} : seqT (.ctp ds) = some ds := rfl
end
end FM
namespace FM
open PySem PySem.Spec L2 PyProof.Rows
/-! ### a walk over a list of one's own things: each is taken out -/
section
variable {k : Kc} {E : XK}
end
end FM
namespace FM
open PySem PySem.Spec L2 PyProof.Rows
/-! ### list(reversed(a list)) -/
section
variable {prog : Program} {w : World} {A : Around} {s : Shared} {R : Result → Shared → Prop}
end
section
variable {prog : Program} {w : World} {A : Around} {E : Value → Shared → Prop} {s : Shared}
end
section
variable {X : Cx}
end
end FM
namespace FM
open PySem PySem.Spec L2 PyProof.Rows
section
variable {k : Kc} {E : XK}
/-! ### a method without arguments of a list in a field -/
/-! ### x += e, ints -/
/-! ### a slot's list and what has effects, together one's own list -/
/-! ### a method of an instance that was just made -/
end
end FM
namespace FM
open PySem PySem.Spec L2 PyProof.Rows
section
variable {k : Kc} {E : XK}
/-! ### o.x[i] = v, a list in a field -/
end
end FM
namespace FM
open PySem PySem.Spec L2 PyProof.Rows
/-! ### a walk over one's own list, which stays one's own -/
section
variable {k : Kc} {E : XK}
end
end FM
namespace FM
open PySem PySem.Spec L2 PyProof.Rows
/-! ### a text's join of a list of texts -/
section
variable {k : Kc} {E : XK} {te : TE}
end
end FM
namespace FM
open PySem PySem.Spec L2 PyProof.Rows
/-! ### t[::-1], t a tuple -/
section
variable {prog : Program} {w : World} {A : Around} {E : Value → Shared → Prop} {s : Shared}
end
section
variable {X : Cx}
end
section
variable {k : Kc}
end
end FM
namespace FM
open PySem PySem.Spec L2 PyProof.Rows
/-! ### the logic of a walk over one's own list that stays one's own -/
section
variable {i : Nat} {en : Bool} {f : QG} {body : MS} {ρ : List O} {nx bk ct : List O → Prop} {rt : O → List O → Prop}
end
end FM
namespace FM
open PySem PySem.Spec L2 PyProof.Rows
/-! ### a truth that is told of own things, own tuples too, used at once -/
end FM
namespace L2
open PySem PySem.Spec PyProof.Rows
end L2
namespace FM
open PySem PySem.Spec L2 PyProof.Rows
/-! ### d.update(..) of one's own dict by a new one with other keys -/
section
variable {k : Kc} {E : XK}
theorem OwnK.append {F H : Hp} : ∀ {vs vs2 : List (Key × V)} {os os2 : List (Key × O)} {S T : List Addr}, OwnK k F H vs os S → OwnK k F H vs2 os2 T → OwnK k F H (vs ++ vs2) (os ++ os2) (S ++ T)
  | _, _, _, _, _, _, .nil, h => h
  | _, _, _, _, _, _, .cons w r, h => by
    rw [List.append_assoc]
    exact .cons w (OwnK.append r h)
end
section
variable {i : Nat} {m : M O} {ρ : List O} {Q : O → List O → Prop}
end
end FM
namespace FM
open PySem PySem.Spec L2 PyProof.Rows
/-! ### sorted(set(xs)) of up to 1000 ints, fewer than 64 unlike ones -/
section
variable {X : Cx}
end
end FM
namespace FM
open PySem PySem.Spec L2 PyProof.Rows
/-! ### tuple(xs) as a key of one's own dict, the empty one too -/
section
variable {ρ : List O} {nx bk ct : List O → Prop} {rt : O → List O → Prop} {m : M O} {qi : QE}
end
end FM
namespace FM
open PySem PySem.Spec L2 PyProof.Rows
/-! ### {text: int, ..}.get(x, int) -/
/-! ### len(dict(pairs)) of pairs with ints for keys -/
def rDictP (K : Frag) : List V → Hp → VK → Prop := fun xs H Q => ∃ (a : Addr) (ps : List Addr) (kvs : List (Key × V)), xs = [.ref a] ∧ SqL K H a (ps.map V.ref) ∧ Paired (fun p kv => SqT K H p [kV kv.1, kv.2]) ps kvs ∧
    ∀ p, H p = none → Q (.ref p) (upd H p (.dK (mergeK [] kvs)))
theorem cr_dictP {X : Cx} (hcalm : X.calm = true) : CallR X (.type "dict") (rDictP X.K) := call_dictP hcalm
end FM
namespace FM
open PySem PySem.Spec L2 PyProof.Rows
/-! ### a tuple once, or not at all -/
end FM
namespace FM
open PySem PySem.Spec L2 PyProof.Rows
/-! ### dict(pairs) with tuples for keys -/
section
variable {prog : Program} {w : World} {A : Around} {E : Value → Shared → Prop}
end
section
variable {X : Cx}
end
end FM
namespace FM
open PySem PySem.Spec L2 PyProof.Rows
/-! ### lists of one's own lists: their parts taken together in one new list, and changed -/
section
variable {k : Kc} {E : XK}
/-! ### the logic -/
end
end FM
namespace FM
open PySem PySem.Spec L2 PyProof.Rows
/-! ### one's own list of one's own things: it grows by one; a walk that takes each out, the list stays -/
section
variable {k : Kc} {E : XK}
end
section
variable {f : QT} {body : MS} {ρ : List O} {nx bk ct : List O → Prop} {rt : O → List O → Prop}
end
end FM
namespace FM
open PySem PySem.Spec L2 PyProof.Rows
/-! ### list.extend by any list, a frozen one too -/
section
variable {k : Kc} {E : XK}
end
end FM
namespace FM
open PySem PySem.Spec L2 PyProof.Rows
/-! ### zip whose tuples are kept: a target of one name -/
section
variable {prog : Program} {w : World} {A : Around} {E : Value → Shared → Prop} {s : Shared} {z TI TO i1 i2 : Addr} {fp1 fp2 : List Addr} {n1 n2 i : Nat} {P1 P2 : Nat → Value → Prop} {St1 St2 : Nat → Heap → Prop} {a1 a2 f0 f1 : Value}
end
end FM
namespace FM
open PySem PySem.Spec L2 PyProof.Rows
/-! ### min and max of a tuple of ints -/
section
variable {prog : Program} {w : World} {A : Around} {E : Value → Shared → Prop} {s : Shared} {l : Addr} {xs : Array (Int × Tok)}
end
section
variable {X : Cx}
end
section
variable {k : Kc}
end
end FM
namespace FM
open PySem PySem.Spec L2 PyProof.Rows
open PySem.W (dataLt alike minD maxD)
/-! ### min and max of data of one kind -/
section
variable {prog : Program} {w : World} {A : Around} {s : Shared} {E : Value → Shared → Prop}
end
end FM
namespace FM
open PySem PySem.Spec L2 PyProof.Rows
/-! ### dict(pairs) and d.update(pairs), tuples for keys -/
section
variable {prog : Program} {w : World} {A : Around} {E : Value → Shared → Prop}
end

section
variable {X : Cx}
end
section
variable {k : Kc} {E : XK}
end
section
variable {i : Nat} {q : QE} {ρ : List O} {Q : O → List O → Prop}
end
end FM
namespace FM
open PySem PySem.Spec L2 PyProof.Rows
/-! ### comprehensions over a dict of one's own with tuples for keys (locked meanwhile) -/
section
variable {H : Hp} {d : Addr} {ws : List (List Key × V)} {od : Obj}
theorem rd_lockT (hd : H d = some (.dT ws)) {a : Addr} {u : HO} (h : Rd H a u) : Rd (upd H d (.frz od (.dT ws))) a u := by
  by_cases e : a = d
  · subst e
    rcases h with h | ⟨o, h⟩
    · rw [hd] at h
      cases h
      exact .inr ⟨od, upd_same⟩
    · rw [hd] at h
      cases h
  · rcases h with h | ⟨o, h⟩
    · exact .inl (by rw [upd_ne e]; exact h)
    · exact .inr ⟨o, by rw [upd_ne e]; exact h⟩
mutual
theorem Own.lockT {k : Kc} {F : Hp} (hd : H d = some (.dT ws)) : ∀ {v : V} {o : O} {S : List Addr}, Own k F H v o S → Own k F (upd H d (.frz od (.dT ws))) v o S
  | _, _, _, .fz h => .fz h
  | _, _, _, .lst h r => .lst (rd_lockT hd h) r
  | _, _, _, .dic h r => .dic (rd_lockT hd h) r
  | _, _, _, .dit h r => .dit (rd_lockT hd h) r
  | _, _, _, .nst h r => .nst (rd_lockT hd h) (Owns.lockT hd r)
  | _, _, _, .ntp (a := a) h g r => .ntp (by rw [upd_ne (fun e => by rw [e, hd] at h; cases h)]; exact h) g (Owns.lockT hd r)
  | _, _, _, .ndc h r => .ndc (rd_lockT hd h) (OwnK.lockT hd r)
  | _, _, _, .ins (a := a) h r => .ins (by rw [upd_ne (fun e => by rw [e, hd] at h; cases h)]; exact h) (OwnF.lockT hd r)
  | _, _, _, .ktp h r => .ktp h r
  | _, _, _, .ctp h n c d r => .ctp h n c d r
  | _, _, _, .exo h c d f => .exo h c d f
  | _, _, _, .cod => .cod
  | _, _, _, .dnk (a := a) h r => .dnk (by rw [upd_ne (fun e => by rw [e, hd] at h; unfold NkO at h; cases h)]; exact h) (OwnN.lockT hd r)
  | _, _, _, .dead => .dead
theorem Owns.lockT {k : Kc} {F : Hp} (hd : H d = some (.dT ws)) : ∀ {v : List V} {o : List O} {S : List Addr}, Owns k F H v o S → Owns k F (upd H d (.frz od (.dT ws))) v o S
  | _, _, _, .nil => .nil
  | _, _, _, .cons h r => .cons (Own.lockT hd h) (Owns.lockT hd r)
theorem OwnK.lockT {k : Kc} {F : Hp} (hd : H d = some (.dT ws)) : ∀ {v : List (Key × V)} {o : List (Key × O)} {S : List Addr}, OwnK k F H v o S → OwnK k F (upd H d (.frz od (.dT ws))) v o S
  | _, _, _, .nil => .nil
  | _, _, _, .cons h r => .cons (Own.lockT hd h) (OwnK.lockT hd r)
theorem OwnF.lockT {k : Kc} {F : Hp} (hd : H d = some (.dT ws)) : ∀ {v : List (Str × V)} {o : List (Str × O)} {S : List Addr}, OwnF k F H v o S → OwnF k F (upd H d (.frz od (.dT ws))) v o S
  | _, _, _, .nil => .nil
  | _, _, _, .cons h r => .cons (Own.lockT hd h) (OwnF.lockT hd r)
theorem OwnN.lockT {k : Kc} {F : Hp} (hd : H d = some (.dT ws)) : ∀ {v : List (NK × Addr × V)} {o : List (NK × O)} {S : List Addr}, OwnN k F H v o S → OwnN k F (upd H d (.frz od (.dT ws))) v o S
  | _, _, _, .nil => .nil
  | _, _, _, .cons n h r => .cons n (Own.lockT hd h) (OwnN.lockT hd r)
end
theorem Envs.lockT {k : Kc} {F : Hp} (hd : H d = some (.dT ws)) : ∀ {σ : L2.St} {ρ : List O} {S : List Addr}, Envs k F H σ ρ S → Envs k F (upd H d (.frz od (.dT ws))) σ ρ S
  | _, _, _, .nil => .nil
  | _, _, _, .dead r => .dead (Envs.lockT hd r)
  | _, _, _, .cons w r => .cons (w.lockT hd) (Envs.lockT hd r)
end

def keysT (ds : List (List Key × PD)) : List PD := ds.map fun p => tkD p.1
theorem RepT.key {K : Frag} {F : Hp} {k : List Key} {v : V} : ∀ {vs : List (List Key × V)} {ds : List (List Key × PD)} {i : Nat}, RepT K F vs ds → vs[i]? = some (k, v) → (keysT ds)[i]? = some (tkD k)
  | (_, _) :: _, (_, _) :: _, 0, .cons h r, e => by
    simp at e
    obtain ⟨rfl, rfl⟩ := e
    rfl
  | _, _, i + 1, .cons h r, e => by
    have := RepT.key (i := i) r (by simpa using e)
    simpa [keysT] using this
section
variable {k : Kc} {E : XK} {i : Nat}
end
end FM
namespace FM
open PySem PySem.Spec L2 PyProof.Rows
/-! ### one's own list of one's own things, extended by another such; a walk over such a list that a call tells -/
section
variable {k : Kc} {E : XK}
end
section
variable {f : QT} {body : MS} {ρ : List O} {nx bk ct : List O → Prop} {rt : O → List O → Prop} {m : M O}
end
end FM
namespace FM
open PySem PySem.Spec L2 PyProof.Rows
/-! ### sorted(set(xs)) of pairs of small ints, fewer than 64 -/
section
variable {k : Kc} {w : World} {P : Program} {te : TE} {E : XK}
end
end FM
namespace FM
open PySem PySem.Spec L2 PyProof.Rows
/-! ### a call by what is one's own, whose answer is new and leans on none of it -/
mutual
def immO : O → Bool
  | .fz d => imm d
  | .lst ds => imms ds
  | .nst os => immOs os
  | .ntp os => immOs os
  | _ => false
def immOs : List O → Bool
  | [] => true
  | o :: os => immO o && immOs os
end
mutual
theorem Own.immO {k : Kc} {F G H : Hp} (s : ∀ a vs, RdT F a vs → RdT G a vs) : ∀ {v : V} {o : O} {S : List Addr}, Own k F H v o S → FM.immO o = true → Own k G H v o S
  | _, _, _, .fz h, e => .fz (h.imm s (by simpa only [FM.immO] using e))
  | _, _, _, .lst h r, e => .lst h (Reps.imm s r (by simpa only [FM.immO] using e))
  | _, _, _, .dic _ _, e => by simp [FM.immO] at e
  | _, _, _, .dit _ _, e => by simp [FM.immO] at e
  | _, _, _, .nst h r, e => .nst h (Owns.immO s r (by simpa only [FM.immO] using e))
  | _, _, _, .ntp h g r, e => .ntp h g (Owns.immO s r (by simpa only [FM.immO] using e))
  | _, _, _, .ndc _ _, e => by simp [FM.immO] at e
  | _, _, _, .ins _ _, e => by simp [FM.immO] at e
  | _, _, _, .ktp _ _, e => by simp [FM.immO] at e
  | _, _, _, .ctp _ _ _ _ _, e => by simp [FM.immO] at e
  | _, _, _, .exo _ _ _ _, e => by simp [FM.immO] at e
  | _, _, _, .cod, e => by simp [FM.immO] at e
  | _, _, _, .dnk _ _, e => by simp [FM.immO] at e
  | _, _, _, .dead, e => by simp [FM.immO] at e
theorem Owns.immO {k : Kc} {F G H : Hp} (s : ∀ a vs, RdT F a vs → RdT G a vs) : ∀ {v : List V} {o : List O} {S : List Addr}, Owns k F H v o S → FM.immOs o = true → Owns k G H v o S
  | _, _, _, .nil, _ => .nil
  | _, _, _, .cons h r, e => by
    have e' : _ ∧ _ := Bool.and_eq_true_iff.mp (by simpa only [FM.immOs] using e)
    exact .cons (Own.immO s h e'.1) (Owns.immO s r e'.2)
end
end FM
namespace FM
open PySem PySem.Spec L2 PyProof.Rows
section
variable {k : Kc} {E : XK}
/-! ### a method without arguments of a list in one's own tuple -/
end
/-! ### a call by own tuples that hold what changes: the answer leans on none of it -/
def chO : O → Bool
  | .lst _ => true
  | .dic _ => true
  | .dit _ => true
  | .nst _ => true
  | _ => false
mutual
def hvO : O → Bool
  | .fz _ => true
  | .lst _ => true
  | .dic _ => true
  | .dit _ => true
  | .nst os => hvOs os
  | .ntp os => hvOs os && os.any chO
  | .ndc _ => false
  | .ins _ _ => false
  | .ktp _ => false
  | .ctp _ => true
  | .exo _ => false
  | .cod _ => false
  | .dnk _ => false
  | .dead => true
def hvOs : List O → Bool
  | [] => true
  | o :: os => hvO o && hvOs os
end
/-- no tuple, or a tuple that holds what is none -/
def Hvy (H : Hp) (S : List Addr) (a : Addr) : Prop := Ntp H a ∨ ∃ vs b, H a = some (.tup vs) ∧ V.ref b ∈ vs ∧ b ∈ S ∧ Ntp H b
theorem Hvy.mono {H : Hp} {S T : List Addr} {a : Addr} (m : ∀ b ∈ S, b ∈ T) : Hvy H S a → Hvy H T a
  | .inl h => .inl h
  | .inr ⟨vs, b, h1, h2, h3, h4⟩ => .inr ⟨vs, b, h1, h2, m b h3, h4⟩
theorem Own.chRef {k : Kc} {F H : Hp} : ∀ {v : V} {o : O} {S : List Addr}, Own k F H v o S → chO o = true → ∃ b, v = .ref b ∧ b ∈ S ∧ Ntp H b
  | _, _, _, .lst h _, _ => ⟨_, rfl, List.mem_cons_self, rd_notup h (fun _ z => by cases z) (fun _ _ z => by cases z)⟩
  | _, _, _, .dic h _, _ => ⟨_, rfl, List.mem_cons_self, rd_notup h (fun _ z => by cases z) (fun _ _ z => by cases z)⟩
  | _, _, _, .dit h _, _ => ⟨_, rfl, List.mem_cons_self, rd_notup h (fun _ z => by cases z) (fun _ _ z => by cases z)⟩
  | _, _, _, .nst h _, _ => ⟨_, rfl, List.mem_cons_self, rd_notup h (fun _ z => by cases z) (fun _ _ z => by cases z)⟩
  | _, _, _, .fz _, e => by cases e
  | _, _, _, .ntp _ _ _, e => by cases e
  | _, _, _, .ndc _ _, e => by cases e
  | _, _, _, .ins _ _, e => by cases e
  | _, _, _, .ktp _ _, e => by cases e
  | _, _, _, .ctp _ _ _ _ _, e => by cases e
  | _, _, _, .exo _ _ _ _, e => by cases e
  | _, _, _, .cod, e => by cases e
  | _, _, _, .dnk _ _, e => by cases e
  | _, _, _, .dead, e => by cases e
theorem Owns.chRef {k : Kc} {F H : Hp} : ∀ {v : List V} {o : List O} {S : List Addr}, Owns k F H v o S → o.any chO = true → ∃ b, V.ref b ∈ v ∧ b ∈ S ∧ Ntp H b
  | _, _, _, .nil, e => by cases e
  | _, _, _, .cons (o := o) h r, e => by
    rw [List.any_cons, Bool.or_eq_true] at e
    rcases e with e | e
    · obtain ⟨b, rfl, h1, h2⟩ := h.chRef e
      exact ⟨b, List.mem_cons_self, List.mem_append_left _ h1, h2⟩
    · obtain ⟨b, h0, h1, h2⟩ := Owns.chRef r e
      exact ⟨b, List.mem_cons_of_mem _ h0, List.mem_append_right _ h1, h2⟩
mutual
theorem Own.hvy {k : Kc} {F H : Hp} : ∀ {v : V} {o : O} {S : List Addr}, Own k F H v o S → hvO o = true → ∀ a ∈ S, Hvy H S a
  | _, _, _, .fz _, _, a, m => by cases m
  | _, _, _, .lst h _, _, a, m => by rw [List.mem_singleton.mp m]; exact .inl (rd_notup h (fun _ z => by cases z) (fun _ _ z => by cases z))
  | _, _, _, .dic h _, _, a, m => by rw [List.mem_singleton.mp m]; exact .inl (rd_notup h (fun _ z => by cases z) (fun _ _ z => by cases z))
  | _, _, _, .dit h _, _, a, m => by rw [List.mem_singleton.mp m]; exact .inl (rd_notup h (fun _ z => by cases z) (fun _ _ z => by cases z))
  | _, _, _, .nst h r, e, a, m => by
    rcases List.mem_cons.mp m with e1 | m
    · rw [e1]; exact .inl (rd_notup h (fun _ z => by cases z) (fun _ _ z => by cases z))
    · exact (Owns.hvy r (by simpa [hvO] using e) a m).mono fun b mb => List.mem_cons_of_mem _ mb
  | _, _, _, .ntp h g r, e, a, m => by
    have e' : hvOs _ = true ∧ _ := Bool.and_eq_true_iff.mp (by simpa only [hvO] using e)
    rcases List.mem_cons.mp m with e1 | m
    · rw [e1]
      obtain ⟨b, h0, h1, h2⟩ := r.chRef e'.2
      exact .inr ⟨_, b, h, h0, List.mem_cons_of_mem _ h1, h2⟩
    · exact (Owns.hvy r e'.1 a m).mono fun b mb => List.mem_cons_of_mem _ mb
  | _, _, _, .ndc _ _, e, a, m => by simp [hvO] at e
  | _, _, _, .ins _ _, e, a, m => by simp [hvO] at e
  | _, _, _, .ktp _ _, e, a, m => by cases m
  | _, _, _, .ctp _ _ _ _ _, e, a, m => by cases m
  | _, _, _, .exo _ _ _ _, e, a, m => by cases m
  | _, _, _, .cod, e, a, m => by cases m
  | _, _, _, .dnk _ _, e, a, m => by simp [hvO] at e
  | _, _, _, .dead, _, a, m => by cases m
theorem Owns.hvy {k : Kc} {F H : Hp} : ∀ {v : List V} {o : List O} {S : List Addr}, Owns k F H v o S → hvOs o = true → ∀ a ∈ S, Hvy H S a
  | _, _, _, .nil, _, a, m => by cases m
  | _, _, _, .cons h r, e, a, m => by
    have e' : _ ∧ _ := Bool.and_eq_true_iff.mp (by simpa only [hvOs] using e)
    rcases List.mem_append.mp m with m | m
    · exact (Own.hvy h e'.1 a m).mono fun b mb => List.mem_append_left _ mb
    · exact (Owns.hvy r e'.2 a m).mono fun b mb => List.mem_append_right _ mb
end
theorem Vws.hvy {k : Kc} {F H : Hp} {S : List Addr} (off : ∀ a ∈ S, F a = none) : ∀ {vs : List V} {os : List O} {ds : List PD}, Vws k F H S vs os → hvOs os = true → toPDs os = some ds → ∃ T : List Addr, (∀ a ∈ T, a ∈ S) ∧ (∀ a ∈ T, Hvy H T a) ∧ (∀ U : List Addr, (∀ a ∈ T, a ∈ U) → (∀ a ∈ U, a ∈ S) → Reps k.K (over F H U) vs ds)
  | _, _, _, .nil, _, e => by
    have e' := Option.some.inj e
    subst e'
    exact ⟨[], (fun a m => by cases m), (fun a m => by cases m), fun _ _ _ => .nil⟩
  | _, _, _, .cons (o := o) (os := os) w ws, fl, e => by
    have fl' : _ ∧ _ := Bool.and_eq_true_iff.mp (by simpa only [hvOs] using fl)
    unfold toPDs at e
    cases q1 : toPD o with
    | none => rw [q1] at e; cases e
    | some d =>
      cases q2 : toPDs os with
      | none => rw [q1, q2] at e; cases e
      | some ds =>
        rw [q1, q2] at e
        have e' := Option.some.inj e
        subst e'
        obtain ⟨T1, m1, w1⟩ := w
        obtain ⟨T2, m2, n2, r2⟩ := Vws.hvy off ws fl'.2 q2
        refine ⟨T1 ++ T2, fun a z => (List.mem_append.mp z).elim (m1 a) (m2 a), fun a z => (List.mem_append.mp z).elim (fun z => (Own.hvy w1 fl'.1 a z).mono fun b mb => List.mem_append_left _ mb) (fun z => (n2 a z).mono fun b mb => List.mem_append_right _ mb), fun U h1 h2 => ?_⟩
        refine .cons ?_ (r2 U (fun a z => h1 a (List.mem_append_right _ z)) h2)
        exact own_fz (T := U) (over_sub fun a z => off a (h2 a z)) (fun a u m r => over_rd m r) (fun a vs m r => by rw [over_in m]; exact r) (fun a z => h1 a (List.mem_append_left _ z)) w1 q1
/-- what holds is told by what it holds -/
abbrev RefT (F : Hp) (vs : List V) : Prop := ∀ b, V.ref b ∈ vs → ∃ ws, RdT F b ws
theorem Rep.refT {K : Frag} {F : Hp} : ∀ {v : V} {d : PD}, Rep K F v d → FM.imm d = true → ∀ b, v = .ref b → ∃ ws, RdT F b ws
  | _, _, .non, _, b, e => by cases e
  | _, _, .bl _, _, b, e => by cases e
  | _, _, .int _, _, b, e => by cases e
  | _, _, .str _, _, b, e => by cases e
  | _, _, .lst h r, e, b, _ => by simp [FM.imm] at e
  | _, _, .tup h r, _, b, e => by cases e; exact ⟨_, h⟩
  | _, _, .dic h r e1, e, b, _ => by subst e1; simp [FM.imm] at e
  | _, _, .dit h r e1, e, b, _ => by subst e1; simp [FM.imm] at e
theorem Reps.refT {K : Frag} {F : Hp} : ∀ {v : List V} {d : List PD}, Reps K F v d → FM.imms d = true → RefT F v
  | _, _, .nil, _, b, m => by cases m
  | _, _, .cons h r, e, b, m => by
    have e' : _ ∧ _ := Bool.and_eq_true_iff.mp (by simpa only [FM.imms] using e)
    rcases List.mem_cons.mp m with m | m
    · exact h.refT e'.1 b m.symm
    · exact Reps.refT r e'.2 b m
mutual
theorem Rep.immH {K : Frag} {F G : Hp} (s : ∀ a vs, RdT F a vs → RefT F vs → RdT G a vs) : ∀ {v : V} {d : PD}, Rep K F v d → FM.imm d = true → Rep K G v d
  | _, _, .non, _ => .non
  | _, _, .bl b, _ => .bl b
  | _, _, .int i, _ => .int i
  | _, _, .str x, _ => .str x
  | _, _, .lst h r, e => by simp [FM.imm] at e
  | _, _, .tup h r, e => .tup (s _ _ h (r.refT (by simpa [FM.imm] using e))) (Reps.immH s r (by simpa [FM.imm] using e))
  | _, _, .dic h r e1, e => by subst e1; simp [FM.imm] at e
  | _, _, .dit h r e1, e => by subst e1; simp [FM.imm] at e
theorem Reps.immH {K : Frag} {F G : Hp} (s : ∀ a vs, RdT F a vs → RefT F vs → RdT G a vs) : ∀ {v : List V} {d : List PD}, Reps K F v d → FM.imms d = true → Reps K G v d
  | _, _, .nil, _ => .nil
  | _, _, .cons h r, e => by
    have e' : _ ∧ _ := Bool.and_eq_true_iff.mp (by simpa only [FM.imms] using e)
    exact .cons (Rep.immH s h e'.1) (Reps.immH s r e'.2)
end
mutual
theorem Own.immH {k : Kc} {F G H : Hp} (s : ∀ a vs, RdT F a vs → RefT F vs → RdT G a vs) : ∀ {v : V} {o : O} {S : List Addr}, Own k F H v o S → FM.immO o = true → Own k G H v o S
  | _, _, _, .fz h, e => .fz (h.immH s (by simpa only [FM.immO] using e))
  | _, _, _, .lst h r, e => .lst h (Reps.immH s r (by simpa only [FM.immO] using e))
  | _, _, _, .dic _ _, e => by simp [FM.immO] at e
  | _, _, _, .dit _ _, e => by simp [FM.immO] at e
  | _, _, _, .nst h r, e => .nst h (Owns.immH s r (by simpa only [FM.immO] using e))
  | _, _, _, .ntp h g r, e => .ntp h g (Owns.immH s r (by simpa only [FM.immO] using e))
  | _, _, _, .ndc _ _, e => by simp [FM.immO] at e
  | _, _, _, .ins _ _, e => by simp [FM.immO] at e
  | _, _, _, .ktp _ _, e => by simp [FM.immO] at e
  | _, _, _, .ctp _ _ _ _ _, e => by simp [FM.immO] at e
  | _, _, _, .exo _ _ _ _, e => by simp [FM.immO] at e
  | _, _, _, .cod, e => by simp [FM.immO] at e
  | _, _, _, .dnk _ _, e => by simp [FM.immO] at e
  | _, _, _, .dead, e => by simp [FM.immO] at e
theorem Owns.immH {k : Kc} {F G H : Hp} (s : ∀ a vs, RdT F a vs → RefT F vs → RdT G a vs) : ∀ {v : List V} {o : List O} {S : List Addr}, Owns k F H v o S → FM.immOs o = true → Owns k G H v o S
  | _, _, _, .nil, _ => .nil
  | _, _, _, .cons h r, e => by
    have e' : _ ∧ _ := Bool.and_eq_true_iff.mp (by simpa only [FM.immOs] using e)
    exact .cons (Own.immH s h e'.1) (Owns.immH s r e'.2)
end
end FM
namespace FM
open PySem PySem.Spec L2 PyProof.Rows
/-! ### what is told with all slots frozen, instances and records too -/
def hvK : List (Key × O) → Bool
  | [] => true
  | p :: r => hvO p.2 && hvK r
def hvR : O → Bool
  | .ndc kvs => hvK kvs
  | o => hvO o
def frz4 (o : O) : O := if hvR o then match toPD o with
  | some d => .fz d
  | none => .dead
  else .dead
def frz4s : List (Str × O) → List (Str × O)
  | [] => []
  | (x, o) :: r => (x, frz4 o) :: frz4s r
def frzI : O → O
  | .ins c fs => .ins c (frz4s fs)
  | o => frz4 o
def frzE (ρ : List O) : List O := ρ.map frzI
@[simp] theorem frzE_nil : frzE [] = [] := rfl
@[simp] theorem frzE_cons {o : O} {ρ : List O} : frzE (o :: ρ) = frzI o :: frzE ρ := rfl
@[simp] theorem frzI_fz {d : PD} : frzI (.fz d) = .fz d := rfl
@[simp] theorem frzI_lst {ds : List PD} : frzI (.lst ds) = .fz (.list ds) := rfl
@[simp] theorem frzI_dic {ds : List (Key × PD)} : frzI (.dic ds) = .fz (.dict (ds.map kp)) := rfl
@[simp] theorem frzI_dead : frzI .dead = .dead := rfl
@[simp] theorem frzI_ins {c : Nat} {fs : List (Str × O)} : frzI (.ins c fs) = .ins c (frz4s fs) := rfl
@[simp] theorem frz4s_nil : frz4s [] = [] := rfl
@[simp] theorem frz4s_cons {x : Str} {o : O} {r : List (Str × O)} : frz4s ((x, o) :: r) = (x, frz4 o) :: frz4s r := rfl
@[simp] theorem frz4_fz {d : PD} : frz4 (.fz d) = .fz d := rfl
@[simp] theorem frz4_lst {ds : List PD} : frz4 (.lst ds) = .fz (.list ds) := rfl
@[simp] theorem frz4_dic {ds : List (Key × PD)} : frz4 (.dic ds) = .fz (.dict (ds.map kp)) := rfl
@[simp] theorem frz4_dead : frz4 .dead = .dead := rfl
theorem frz4_eq {o : O} {d : PD} (h : hvR o = true) (e : toPD o = some d) : frz4 o = .fz d := by unfold frz4; rw [if_pos h, e]
/-- no instance -/
def Nin (H : Hp) (a : Addr) : Prop := ∀ c dx fs, H a ≠ some (.ins c dx fs)
theorem rd_nin {H : Hp} {a : Addr} {u : HO} (h : Rd H a u) (hu : ∀ c dx fs, u ≠ .ins c dx fs) : Nin H a := fun c dx fs z => by
  rcases h with h | ⟨o, h⟩
  · rw [z] at h; cases h; exact hu _ _ _ rfl
  · rw [z] at h; cases h
mutual
theorem Own.nin {k : Kc} {F H : Hp} : ∀ {v : V} {o : O} {S : List Addr}, Own k F H v o S → hvO o = true → ∀ a ∈ S, Nin H a
  | _, _, _, .fz _, _, a, m => by cases m
  | _, _, _, .lst h _, _, a, m => by rw [List.mem_singleton.mp m]; exact rd_nin h (fun _ _ _ z => by cases z)
  | _, _, _, .dic h _, _, a, m => by rw [List.mem_singleton.mp m]; exact rd_nin h (fun _ _ _ z => by cases z)
  | _, _, _, .dit h _, _, a, m => by rw [List.mem_singleton.mp m]; exact rd_nin h (fun _ _ _ z => by cases z)
  | _, _, _, .nst h r, e, a, m => by
    rcases List.mem_cons.mp m with e1 | m
    · rw [e1]; exact rd_nin h (fun _ _ _ z => by cases z)
    · exact Owns.nin r (by simpa [hvO] using e) a m
  | _, _, _, .ntp h g r, e, a, m => by
    have e' : hvOs _ = true ∧ _ := Bool.and_eq_true_iff.mp (by simpa only [hvO] using e)
    rcases List.mem_cons.mp m with e1 | m
    · rw [e1]; exact rd_nin (.inl h) (fun _ _ _ z => by cases z)
    · exact Owns.nin r e'.1 a m
  | _, _, _, .ndc _ _, e, a, m => by simp [hvO] at e
  | _, _, _, .ins _ _, e, a, m => by simp [hvO] at e
  | _, _, _, .ktp _ _, e, a, m => by cases m
  | _, _, _, .ctp _ _ _ _ _, e, a, m => by cases m
  | _, _, _, .exo _ _ _ _, e, a, m => by cases m
  | _, _, _, .cod, e, a, m => by cases m
  | _, _, _, .dnk _ _, e, a, m => by simp [hvO] at e
  | _, _, _, .dead, _, a, m => by cases m
theorem Owns.nin {k : Kc} {F H : Hp} : ∀ {v : List V} {o : List O} {S : List Addr}, Owns k F H v o S → hvOs o = true → ∀ a ∈ S, Nin H a
  | _, _, _, .nil, _, a, m => by cases m
  | _, _, _, .cons h r, e, a, m => by
    have e' : _ ∧ _ := Bool.and_eq_true_iff.mp (by simpa only [hvOs] using e)
    rcases List.mem_append.mp m with m | m
    · exact Own.nin h e'.1 a m
    · exact Owns.nin r e'.2 a m
end
theorem OwnK.hvn {k : Kc} {F H : Hp} : ∀ {v : List (Key × V)} {o : List (Key × O)} {S : List Addr}, OwnK k F H v o S → hvK o = true → ∀ a ∈ S, Hvy H S a ∧ Nin H a
  | _, _, _, .nil, _, a, m => by cases m
  | _, _, _, .cons h r, e, a, m => by
    have e' : _ ∧ _ := Bool.and_eq_true_iff.mp (by simpa only [hvK] using e)
    rcases List.mem_append.mp m with m | m
    · exact ⟨(Own.hvy h e'.1 a m).mono fun b mb => List.mem_append_left _ mb, Own.nin h e'.1 a m⟩
    · exact ⟨(OwnK.hvn r e'.2 a m).1.mono fun b mb => List.mem_append_right _ mb, (OwnK.hvn r e'.2 a m).2⟩
theorem Own.hvn {k : Kc} {F H : Hp} {v : V} {o : O} {S : List Addr} (w : Own k F H v o S) (e : hvR o = true) : ∀ a ∈ S, Hvy H S a ∧ Nin H a := by
  cases w with
  | ndc h r =>
    intro a m
    rcases List.mem_cons.mp m with e1 | m
    · rw [e1]; exact ⟨.inl (rd_notup h (fun _ z => by cases z) (fun _ _ z => by cases z)), rd_nin h (fun _ _ _ z => by cases z)⟩
    · have q := OwnK.hvn r e a m
      exact ⟨q.1.mono fun b mb => List.mem_cons_of_mem _ mb, q.2⟩
  | ins h r => exact absurd e (by simp [hvR, hvO])
  | fz h => exact fun a m => ⟨Own.hvy (.fz h) e a m, Own.nin (.fz h) e a m⟩
  | lst h r => exact fun a m => ⟨Own.hvy (.lst h r) e a m, Own.nin (.lst h r) e a m⟩
  | dic h r => exact fun a m => ⟨Own.hvy (.dic h r) e a m, Own.nin (.dic h r) e a m⟩
  | dit h r => exact fun a m => ⟨Own.hvy (.dit h r) e a m, Own.nin (.dit h r) e a m⟩
  | nst h r => exact fun a m => ⟨Own.hvy (.nst h r) e a m, Own.nin (.nst h r) e a m⟩
  | ntp h g r => exact fun a m => ⟨Own.hvy (.ntp h g r) e a m, Own.nin (.ntp h g r) e a m⟩
  | ktp h r => exact fun a m => by cases m
  | ctp h n c d r => exact fun a m => by cases m
  | exo h c d f => exact fun a m => by cases m
  | cod => exact fun a m => by cases m
  | dnk h r => exact absurd e (by simp [hvR, hvO])
  | dead => exact fun a m => by cases m
/-- the set that is frozen -/
structure FrT (F H : Hp) (S T : List Addr) : Prop where
  sub : ∀ a ∈ T, a ∈ S
  hvy : ∀ a ∈ T, Hvy H T a
  nin : ∀ a ∈ T, Nin H a
theorem FrT.nil {F H : Hp} {S : List Addr} : FrT F H S [] := ⟨(fun a m => by cases m), (fun a m => by cases m), fun a m => by cases m⟩
theorem FrT.app {F H : Hp} {S S' T U : List Addr} (x : FrT F H S T) (y : FrT F H S' U) : FrT F H (S ++ S') (T ++ U) :=
  ⟨fun a z => (List.mem_append.mp z).elim (fun z => List.mem_append_left _ (x.sub a z)) fun z => List.mem_append_right _ (y.sub a z),
   fun a z => (List.mem_append.mp z).elim (fun z => (x.hvy a z).mono fun b mb => List.mem_append_left _ mb) fun z => (y.hvy a z).mono fun b mb => List.mem_append_right _ mb,
   fun a z => (List.mem_append.mp z).elim (x.nin a) (y.nin a)⟩
theorem Own.frz4 {k : Kc} {F H : Hp} {v : V} {o : O} {S : List Addr} (w : Own k F H v o S) (off : ∀ a ∈ S, F a = none) : ∃ T, FrT F H S T ∧ ∀ U : List Addr, (∀ a ∈ T, a ∈ U) → (∀ a ∈ U, F a = none) → Own k (over F H U) H v (FM.frz4 o) [] := by
  by_cases c : hvR o = true
  · cases q1 : toPD o with
    | none =>
      have e : FM.frz4 o = .dead := by unfold FM.frz4; rw [if_pos c, q1]
      exact ⟨[], .nil, fun U h1 h2 => by rw [e]; exact .dead⟩
    | some d =>
      refine ⟨S, ⟨fun _ z => z, fun a z => (w.hvn c a z).1, fun a z => (w.hvn c a z).2⟩, fun U h1 h2 => ?_⟩
      rw [frz4_eq c q1]
      exact .fz (own_fz (T := U) (over_sub fun a z => h2 a z) (fun a u m r => over_rd m r) (fun a vs m r => by rw [over_in m]; exact r) (fun a z => h1 a z) w q1)
  · have e : FM.frz4 o = .dead := by unfold FM.frz4; rw [if_neg c]
    exact ⟨[], .nil, fun U h1 h2 => by rw [e]; exact .dead⟩
theorem OwnF.frz4 {k : Kc} {F H : Hp} : ∀ {vs : List (Str × V)} {os : List (Str × O)} {S : List Addr}, OwnF k F H vs os S → (∀ a ∈ S, F a = Option.none) → ∃ T, FrT F H S T ∧ ∀ U : List Addr, (∀ a ∈ T, a ∈ U) → (∀ a ∈ U, F a = Option.none) → OwnF k (over F H U) H vs (frz4s os) []
  | _, _, _, .nil, _ => ⟨[], .nil, fun _ _ _ => .nil⟩
  | _, _, _, .cons h r, off => by
    obtain ⟨T1, f1, e1⟩ := Own.frz4 h fun a z => off a (List.mem_append_left _ z)
    obtain ⟨T2, f2, e2⟩ := OwnF.frz4 r fun a z => off a (List.mem_append_right _ z)
    exact ⟨T1 ++ T2, f1.app f2, fun U h1 h2 => .cons (S := []) (T := []) (e1 U (fun a z => h1 a (List.mem_append_left _ z)) h2) (e2 U (fun a z => h1 a (List.mem_append_right _ z)) h2)⟩
theorem Own.frzI {k : Kc} {F H : Hp} {v : V} {o : O} {S : List Addr} (w : Own k F H v o S) (off : ∀ a ∈ S, F a = none) : ∃ T I, FrT F H S T ∧ (∀ a ∈ I, a ∈ S ∧ ¬ Nin H a) ∧ ∀ U : List Addr, (∀ a ∈ T, a ∈ U) → (∀ a ∈ U, F a = none) → Own k (over F H U) H v (FM.frzI o) I := by
  have plain : FM.frzI o = FM.frz4 o → ∃ T I, FrT F H S T ∧ (∀ a ∈ I, a ∈ S ∧ ¬ Nin H a) ∧ ∀ U : List Addr, (∀ a ∈ T, a ∈ U) → (∀ a ∈ U, F a = none) → Own k (over F H U) H v (FM.frzI o) I := fun e => by
    obtain ⟨T, f, r⟩ := Own.frz4 w off
    exact ⟨T, [], f, (fun a m => by cases m), fun U h1 h2 => by rw [e]; exact r U h1 h2⟩
  cases w with
  | @ins a dx c vs os S2 h r =>
    obtain ⟨T, f, q⟩ := OwnF.frz4 r fun a z => off a (List.mem_cons_of_mem _ z)
    refine ⟨T, [a], ⟨fun b z => List.mem_cons_of_mem _ (f.sub b z), f.hvy, f.nin⟩, fun b m => ?_, fun U h1 h2 => .ins h (q U h1 h2)⟩
    rw [List.mem_singleton.mp m]
    exact ⟨List.mem_cons_self, fun z => z _ _ _ h⟩
  | _ => exact plain rfl
theorem envs_frzE {k : Kc} {F H : Hp} : ∀ {σ : L2.St} {ρ : List O} {S : List Addr}, Envs k F H σ ρ S → (∀ a ∈ S, F a = none) → ∃ T I : List Addr, FrT F H S T ∧ (∀ a ∈ I, a ∈ S ∧ ¬ Nin H a) ∧ (∀ U : List Addr, (∀ a ∈ T, a ∈ U) → (∀ a ∈ U, F a = none) → Envs k (over F H U) H σ (frzE ρ) I)
  | _, _, _, .nil, _ => ⟨[], [], .nil, (fun a m => by cases m), fun _ _ _ => .nil⟩
  | _, _, _, .dead r, off => by
    obtain ⟨T, I, m, n, e⟩ := envs_frzE r off
    exact ⟨T, I, m, n, fun U h1 h2 => .dead (e U h1 h2)⟩
  | _, _, _, .cons (o := o) w r, off => by
    obtain ⟨T1, I1, m1, n1, e1⟩ := Own.frzI w fun a z => off a (List.mem_append_left _ z)
    obtain ⟨T2, I2, m2, n2, e2⟩ := envs_frzE r fun a z => off a (List.mem_append_right _ z)
    refine ⟨T1 ++ T2, I1 ++ I2, m1.app m2, fun a z => (List.mem_append.mp z).elim (fun z => ⟨List.mem_append_left _ (n1 a z).1, (n1 a z).2⟩) (fun z => ⟨List.mem_append_right _ (n2 a z).1, (n2 a z).2⟩), fun U h1 h2 => ?_⟩
    rw [frzE_cons]
    exact .cons (e1 U (fun a z => h1 a (List.mem_append_left _ z)) h2) (e2 U (fun a z => h1 a (List.mem_append_right _ z)) h2)
/-- what leans on nothing that changes -/
def immP : O → Bool
  | .dic ds => ds.all fun p => imm p.2
  | o => immO o
theorem RepK.immH {K : Frag} {F G : Hp} (s : ∀ a vs, RdT F a vs → RefT F vs → RdT G a vs) : ∀ {v : List (Key × V)} {d : List (Key × PD)}, RepK K F v d → (d.all fun p => imm p.2) = true → RepK K G v d
  | _, _, .nil, _ => .nil
  | _, _, .cons h r, e => by
    rw [List.all_cons, Bool.and_eq_true] at e
    exact .cons (Rep.immH s h e.1) (RepK.immH s r e.2)
theorem Own.immP {k : Kc} {F G H : Hp} (s : ∀ a vs, RdT F a vs → RefT F vs → RdT G a vs) {v : V} {o : O} {S : List Addr} (w : Own k F H v o S) (e : FM.immP o = true) : Own k G H v o S := by
  cases w with
  | dic h r => exact .dic h (r.immH s e)
  | fz h => exact Own.immH s (.fz h) e
  | lst h r => exact Own.immH s (.lst h r) e
  | dit h r => exact Own.immH s (.dit h r) e
  | nst h r => exact Own.immH s (.nst h r) e
  | ntp h g r => exact Own.immH s (.ntp h g r) e
  | ndc h r => exact Own.immH s (.ndc h r) e
  | ins h r => exact Own.immH s (.ins h r) e
  | ktp h r => exact Own.immH s (.ktp h r) e
  | ctp h n c d r => exact Own.immH s (.ctp h n c d r) e
  | exo h c d f => exact Own.immH s (.exo h c d f) e
  | cod => exact Own.immH s .cod e
  | dnk h r => exact Own.immH s (.dnk h r) e
  | dead => exact .dead
def qTmpN (q : QE) : QE := fun ρ => match q (frzE ρ) with
  | some o => if immP o then some o else none
  | none => none
@[simp] theorem qTmpN_eq {q : QE} {ρ : List O} : qTmpN q ρ = match q (frzE ρ) with
  | some o => if immP o then some o else none
  | none => none := rfl
/-- back to what was frozen before -/
theorem back_xt {F H F' H' : Hp} {S T : List Addr} (f : FrT F H S T) (fl : FLe F H) (th : ∀ a ∈ S, H a ≠ none) (off : ∀ a ∈ S, F a = none) (x : Xt (over F H T) H F' H') : ∃ G : Hp, Xt F H G H' ∧ (∀ a, F' a = none → G a = none) ∧ ∀ a vs, RdT F' a vs → RefT F' vs → RdT G a vs := by
  let G : Hp := fun a => if a ∈ T then none else F' a
  have gout : ∀ {a : Addr}, a ∉ T → G a = F' a := fun n => if_neg n
  have gin : ∀ {a : Addr}, a ∈ T → G a = none := fun n => if_pos n
  have offT : ∀ a ∈ T, F a = none := fun a z => off a (f.sub a z)
  have hT : ∀ a ∈ T, ∃ u, H a = some u := fun a z => by
    cases w : H a with
    | none => exact absurd w (th a (f.sub a z))
    | some u => exact ⟨u, rfl⟩
  have same : ∀ a ∈ T, ∀ u, H a = some u → F' a = some u := fun a m u z => x.sub a u (by rw [over_in m]; exact z)
  have ntp' : ∀ a ∈ T, Ntp H a → ∀ vs, ¬ RdT F' a vs := fun a m n vs z => by
    obtain ⟨u, hu⟩ := hT a m
    have := same a m u hu
    refine n vs ?_
    rcases z with z | ⟨⟨ob, z⟩, _⟩
    · rw [z] at this; cases this; exact .inl hu
    · rw [z] at this; cases this; exact .inr ⟨ob, hu⟩
  refine ⟨G, ⟨x.ex, fun a u z => ?_, fun a u z => ?_, fun a u z => ?_⟩, fun a z => ?_, fun a vs z rt => ?_⟩
  · have n : a ∉ T := fun m => by rw [offT a m] at z; cases z
    rw [gout n]
    exact x.sub a u (by rw [over_out n]; exact z)
  · by_cases n : a ∈ T
    · rw [gin n] at z; cases z
    · rw [gout n] at z
      exact x.fle a u z
  · by_cases n : a ∈ T
    · rw [gin n] at z; cases z
    · rw [gout n] at z
      rcases x.fresh a u z with y | y
      · rw [over_out n] at y; exact .inl y
      · exact .inr y
  · by_cases n : a ∈ T
    · exact gin n
    · rw [gout n]; exact z
  · have n : a ∉ T := fun m => by
      rcases f.hvy a m with h1 | ⟨us, b, h1, h2, h3, h4⟩
      · exact ntp' a m h1 vs z
      · have e5 := same a m _ h1
        have e6 : vs = us := by
          rcases z with z | ⟨⟨ob, z⟩, _⟩
          · rw [z] at e5; cases e5; rfl
          · rw [z] at e5; cases e5
        obtain ⟨ws', hw⟩ := rt b (by rw [e6]; exact h2)
        exact ntp' b h3 h4 ws' hw
    rcases z with z | ⟨⟨ob, z⟩, nk⟩
    · exact .inl (by rw [gout n]; exact z)
    · exact .inr ⟨⟨ob, by rw [gout n]; exact z⟩, nk⟩
theorem qs_frzE {k : Kc} {F H : Hp} {σ : L2.St} {ρ : List O} {S : List Addr} (q : Qs k F H σ ρ S) : ∃ T I, FrT F H S T ∧ Qs k (over F H T) H σ (frzE ρ) I := by
  obtain ⟨T, I, f, n, e⟩ := envs_frzE q.env q.off
  refine ⟨T, I, f, over_le q.fle, e T (fun _ z => z) (fun a z => q.off a (f.sub a z)), fun a m => ?_⟩
  rw [over_out (fun z => (n a m).2 (f.nin a z))]
  exact q.off a (n a m).1
theorem ten_tmpN {k : Kc} {te : TE} {q : QE} (h : TEn k te q) : TEn k te (qTmpN q) := by
  intro F H σ ρ S o Q qst e g
  unfold qTmpN at e
  split at e
  · rename_i o' e1
    split at e
    · rename_i im
      cases e
      obtain ⟨T, I, f, qs⟩ := qs_frzE qst
      refine h (over F H T) H σ (frzE ρ) I o Q qs e1 fun v F' H' T2 x w fr => ?_
      obtain ⟨G, x2, off2, rt⟩ := back_xt f qst.fle (fun a m => (qst.env.there a m).1) qst.off x
      exact g v G H' T2 x2 (w.immP rt im) ⟨fr.nd, fr.new, fun a m => off2 a (fr.off a m), fr.nofz⟩
    · cases e
  · cases e
end FM
namespace FM
open PySem PySem.Spec L2 PyProof.Rows
/-! ### comprehensions over a frozen dict -/
def DkT (u : HO) : Prop := (∃ ws, u = .dK ws) ∨ ∃ ws, u = .dT ws
theorem DkT.mut {u : HO} (h : DkT u) : Mut (some u) := by
  rcases h with ⟨ws, rfl⟩ | ⟨ws, rfl⟩ <;> exact trivial
theorem Envs.lockU {k : Kc} {F H : Hp} {d : Addr} {u : HO} {od : Obj} (hu : DkT u) (hd : H d = some u) {σ : L2.St} {ρ : List O} {S : List Addr} (w : Envs k F H σ ρ S) : Envs k F (upd H d (.frz od u)) σ ρ S := by
  rcases hu with ⟨ws, rfl⟩ | ⟨ws, rfl⟩
  · exact w.lock hd
  · exact w.lockT hd
/-- a path whose value is known without a step -/
structure TRd (k : Kc) (te : TE) (rd : L2.St → Hp → Option V) (q : QE) : Prop where
  get : ∀ (F H : Hp) (σ : L2.St) (ρ : List O) (S : List Addr) (o : O), Qs k F H σ ρ S → q ρ = some o → ∃ v, rd σ H = some v ∧ Vw k F H S v o ∧ ∀ Q : VK, Q v H → te σ H Q
  lock : ∀ (σ : L2.St) (H : Hp) (d : Addr) (u : HO) (od : Obj), DkT u → H d = some u → rd σ (upd H d (.frz od u)) = rd σ H
def rdVar (i : Nat) : L2.St → Hp → Option V := fun σ _ => σ[i]?.join
theorem trd_var {k : Kc} {i : Nat} : TRd k (tVar i) (rdVar i) (qVar i) := by
  refine ⟨fun F H σ ρ S o q e => ?_, fun _ _ _ _ _ _ _ => rfl⟩
  obtain ⟨v, hv, w⟩ := q.env.slot e
  exact ⟨v, by unfold rdVar; rw [hv]; rfl, w, fun Q h => ⟨v, hv, h⟩⟩
def rdFld (rd : L2.St → Hp → Option V) (x : Str) : L2.St → Hp → Option V := fun σ H => match rd σ H with
  | some (.ref a) => match H a with
    | some (.ins _ _ fs) => fs.lookup x
    | _ => none
  | _ => none
theorem trd_fld {k : Kc} {c i : Nat} {x : Str} (hc : Cls k.K (k.cl c)) (hn : NoAttr k.K (k.cl c) x) : TRd k (tFld k.K (tVar i) x) (rdFld (rdVar i) x) (qFld c i x) := by
  refine ⟨fun F H σ ρ S o q e => ?_, fun σ H d u od hu hd => ?_⟩
  · obtain ⟨fs, e0, e1, e2⟩ := qFld_some e
    obtain ⟨v, hv, T, mT, w⟩ := q.env.slot e0
    cases w with
    | @ins a dx _ ws _ T2 hd hk =>
      obtain ⟨v, T3, R, b1, b2, b3, b4⟩ := hk.take e1
      refine ⟨v, ?_, ⟨T3, fun z m => mT z (List.mem_cons_of_mem _ (b4.subset (List.mem_append_left _ m))), b2⟩, fun Q h => ⟨.ref a, hv, a, _, dx, ws, v, rfl, hd, hc, hn, b1, h⟩⟩
      have e5 : rdVar i σ H = some (.ref a) := by unfold rdVar; rw [hv]; rfl
      unfold rdFld
      rw [e5]
      simp only [hd]
      exact b1
  · unfold rdFld rdVar
    cases h1 : σ[i]?.join with
    | none => rfl
    | some v =>
      cases v with
      | ref a =>
        simp only
        by_cases e : a = d
        · subst e
          rw [upd_same, hd]
          rcases hu with ⟨ws, rfl⟩ | ⟨ws, rfl⟩ <;> rfl
        · rw [upd_ne e]
      | _ => rfl
def keysP (ps : List (PD × PD)) : List PD := ps.map Prod.fst
def qKeysF (q : QE) : QI := fun ρ => match q ρ with
  | some (.fz (.dict ps)) => some (keysP ps)
  | _ => none
@[simp] theorem qKeysF_eq {q : QE} {ρ : List O} : qKeysF q ρ = match q ρ with
  | some (.fz (.dict ps)) => some (keysP ps)
  | _ => none := rfl
theorem keysP_kp {ds : List (Key × PD)} : keysP (ds.map kp) = keysD ds := by
  unfold keysP keysD
  rw [List.map_map]
  rfl
theorem keysP_tp {ds : List (List Key × PD)} : keysP (ds.map tp) = keysT ds := by
  unfold keysP keysT
  rw [List.map_map]
  rfl
def wiF (te : TE) (rd : L2.St → Hp → Option V) : TI := fun σ H R => (∃ (d : Addr) (o : Obj) (u : HO), DkT u ∧ rd σ H = some (.ref d) ∧ H d = some (.frz o u)) → iKeys te σ H R
theorem rd_frz {H : Hp} {d : Addr} {o : Obj} {u w : HO} (h : H d = some (.frz o u)) (r : Rd H d w) (hw : ∀ o' v', w ≠ .frz o' v') : u = w := by
  rcases r with r | ⟨o', r⟩
  · rw [h] at r; cases r; exact absurd rfl (hw _ _)
  · rw [h] at r; cases r; rfl
section
variable {k : Kc} {te : TE} {rd : L2.St → Hp → Option V} {q : QE}
theorem tiv_keysF (t : TRd k te rd q) : TIv k (wiF te rd) (qKeysF q) := by
  rintro F H σ ρ S xs R qs e g ⟨d, o, u, hu, a1, a2⟩
  unfold qKeysF at e
  split at e
  · rename_i ps e0
    cases e
    obtain ⟨v, b1, b2, b3⟩ := t.get F H σ ρ S _ qs e0
    rw [a1] at b1
    cases b1
    have r := b2.rep
    generalize hpd : PyData.dict ps = pd at r
    cases r with
    | @dic a ws ds _ h rr ep =>
      have ep' := hpd.trans ep
      injection ep' with ep'
      subst ep'
      have eu : u = .dK ws := rd_frz a2 (rd_le qs.fle h) (fun _ _ z => by cases z)
      subst eu
      rw [keysP_kp] at g
      have hl : (keysD ds).length = ws.length := by rw [rr.len', keysD, List.length_map]
      refine b3 _ ⟨d, o, rfl, .inl ⟨ws, a2, g _ F H (Xt.refl qs.fle) ⟨fun j F2 H2 hj p f => ?_, fun F2 H2 p f => ?_, fun j F2 H2 x H3 hj p f y => ?_⟩⟩⟩
      · exact walk_keys.goes j H2 (by omega) (p.ex d _ a2)
      · rw [hl]
        exact walk_keys.stops H2 (p.ex d _ a2)
      · obtain ⟨rfl, kk, vv, e1, rfl⟩ := walk_keys.yields j H2 x H3 (by omega) (p.ex d _ a2) y
        have e2 := rr.key e1
        rw [List.getElem?_eq_getElem hj] at e2
        rw [Option.some.inj e2]
        exact ⟨F2, Xt.refl f, rep_key kk⟩
    | @dit a ws ds _ h rr ep =>
      have ep' := hpd.trans ep
      injection ep' with ep'
      subst ep'
      have eu : u = .dT ws := rd_frz a2 (rd_le qs.fle h) (fun _ _ z => by cases z)
      subst eu
      rw [keysP_tp] at g
      have hl : (keysT ds).length = ws.length := by rw [rr.len', keysT, List.length_map]
      refine b3 _ ⟨d, o, rfl, .inr ⟨ws, a2, g _ F H (Xt.refl qs.fle) ⟨fun j F2 H2 hj p f => ?_, fun F2 H2 p f => ?_, fun j F2 H2 x H3 hj p f y => ?_⟩⟩⟩
      · exact walk_keysT.goes j H2 (by omega) (p.ex d _ a2)
      · rw [hl]
        exact walk_keysT.stops H2 (p.ex d _ a2)
      · obtain ⟨rfl, kk, vv, z, e1, rfl, hz⟩ := walk_keysT.yields j H2 x H3 (by omega) (p.ex d _ a2) y
        have e2 := rr.key e1
        rw [List.getElem?_eq_getElem hj] at e2
        rw [Option.some.inj e2]
        refine ⟨adp F2 H3 [z], adp_xt f (fun a m => by rw [List.mem_singleton.mp m]; exact ⟨_, ⟨kk, rfl⟩, hz⟩), .tup (.inl ?_) (reps_keys kk)⟩
        unfold adp
        rw [if_pos List.mem_cons_self]
        exact hz
    | _ => cases hpd
  · cases e
def tOrE (a b : TE) : TE := fun σ H Q => a σ H Q ∨ b σ H Q
theorem pe_orE {X : Cx} {e : Expr} {a b : TE} (ha : PE X e a) (hb : PE X e b) : PE X e (tOrE a b) :=
  ⟨fun pins s σ H Q I h => h.elim (ha.run pins s σ H Q I) (hb.run pins s σ H Q I)⟩
theorem ten_lcF {g : TG} {tt : TT} {t2 : TE} {vs : List Nat} {f : QG} {c : List O → Option Bool} {qe : QE} {J : List Nat} (t : TRd k te rd q) (hg : TGq k g f J) (hJ : ∀ j ∈ J, j ∈ vs) (ht : TTv k tt c) (he : TEv k t2 qe) :
    TEn k (tOrE (tLc (iKeys te) g tt t2 vs) (tLockE (tLc (iKeys te) g tt t2 vs))) (qLc (qKeysF q) f c qe vs) := by
  intro F H σ ρ S o Q qs e h
  have e0 : ∃ ps, q ρ = some (.fz (.dict ps)) := by
    unfold qLc qKeysF at e
    cases z : q ρ with
    | none => rw [z] at e; cases e
    | some w =>
      rw [z] at e
      split at e
      · cases e
      · rename_i z2
        split at z2
        · rename_i ps z3
          exact ⟨ps, z3⟩
        · cases z2
  obtain ⟨ps, e0⟩ := e0
  obtain ⟨v, b1, b2, b3⟩ := t.get F H σ ρ S _ qs e0
  have key : ∃ d u, v = .ref d ∧ DkT u ∧ Rd F d u := by
    have r := b2.rep
    generalize hpd : PyData.dict ps = pd at r
    cases r with
    | @dic a ws ds _ h rr ep => exact ⟨a, _, rfl, .inl ⟨ws, rfl⟩, h⟩
    | @dit a ws ds _ h rr ep => exact ⟨a, _, rfl, .inr ⟨ws, rfl⟩, h⟩
    | _ => cases hpd
  obtain ⟨d, u, rfl, hu, hr⟩ := key
  have free : ∀ ob, H d = some (.frz ob u) → tOrE (tLc (iKeys te) g tt t2 vs) (tLockE (tLc (iKeys te) g tt t2 vs)) σ H Q := fun ob hH =>
    .inl ((ten_lc (wi := wiF te rd) (tiv_keysF t) hg hJ ht he F H σ ρ S o Q qs e h) ⟨d, ob, u, hu, b1, hH⟩)
  have hnf : ∀ o' v', u ≠ .frz o' v' := fun o' v' z => by rcases hu with ⟨ws, rfl⟩ | ⟨ws, rfl⟩ <;> cases z
  rcases hr with hF | ⟨ob, hF⟩
  · rcases qs.fle d u hF with hd | ⟨_, ob, hH⟩
    · refine .inr ⟨d, u, hd, hu.mut, fun od => ?_⟩
      have qs2 : Qs k F (upd H d (.frz od u)) σ ρ S := by
        refine ⟨fun a w z => ?_, qs.env.lockU hu hd, qs.off⟩
        by_cases ne : a = d
        · subst ne
          rw [hF] at z
          cases z
          exact .inr ⟨hu.mut, od, upd_same⟩
        · rw [upd_ne ne]
          exact qs.fle a w z
      have back : ∀ {a : Addr}, (upd H d (.frz od u)) a = none → a ≠ d ∧ H a = none := fun {a} z => by
        have ne : a ≠ d := fun w => by rw [w, upd_same] at z; cases z
        rw [upd_ne ne] at z
        exact ⟨ne, z⟩
      have tt' := ten_lc (wi := wiF te rd) (tiv_keysF t) hg hJ ht he F (upd H d (.frz od u)) σ ρ S o (fun v H2 => H2 d = some (.frz od u) ∧ Q v (upd H2 d u)) qs2 e fun v F2 H2 T2 x w fr => by
        refine ⟨x.ex d _ upd_same, ?_⟩
        have neT : ∀ a ∈ T2, a ≠ d := fun a m => (back (fr.new a m)).1
        have x2 : Xt F H F2 (upd H2 d u) := by
          refine ⟨fun a w z => ?_, x.sub, fun a w z => ?_, fun a w z => ?_⟩
          · by_cases ne : a = d
            · subst ne
              rw [hd] at z
              rw [upd_same]
              exact z
            · rw [upd_ne ne]
              exact x.ex a w (by rw [upd_ne ne]; exact z)
          · by_cases ne : a = d
            · subst ne
              have := x.sub a u hF
              rw [z] at this
              cases this
              exact .inl upd_same
            · rw [upd_ne ne]
              exact x.fle a w z
          · by_cases ne : a = d
            · subst ne
              have := x.sub a u hF
              rw [z] at this
              cases this
              exact .inl hF
            · rcases x.fresh a w z with z2 | z2 | ⟨g, z2⟩
              · exact .inl z2
              · exact .inr (.inl (back z2).2)
              · rw [upd_ne ne] at z2
                exact .inr (.inr ⟨g, z2⟩)
        have w2 : Own k F2 (upd H2 d u) v o T2 := Own.mono (Same.refl F2) (fun a m u z => by rw [upd_ne (neT a m)]; exact z) w
        exact h v F2 _ T2 x2 w2 ⟨fr.nd, fun a m => (back (fr.new a m)).2, fr.off, fun a m o' u' z => by
          rw [upd_ne (neT a m)] at z
          exact fr.nofz a m o' u' z⟩
      exact tt' ⟨d, od, u, hu, by rw [t.lock σ H d u od hu hd]; exact b1, upd_same⟩
    · exact free ob hH
  · rcases qs.fle d _ hF with hH | ⟨m, _⟩
    · exact free ob hH
    · exact m.elim
end
theorem pe_lcF {X : Cx} {elt tg iter : Expr} {ifs : List Expr} {scope : Scope} {own : List (Str × Nat)} {pos : Pos} {wi : TI} {g : TG} {tt : TT} {te : TE} (hc : X.calm = true) (hN : X.N.Nodup) (hi : PI X tg iter wi) (ok : BlkOk X.N X.env.scope scope own)
    (hg : ∀ (s : Shared) (H : Hp) (C : Addr) (cl : List (Str × Addr)) (fp : List Addr), PG (X.blk s H scope (compEnvC scope cl C X.env) fp) tg g)
    (ht : ∀ (s : Shared) (H : Hp) (C : Addr) (cl : List (Str × Addr)) (fp : List Addr), PTs (X.blk s H scope (compEnvC scope cl C X.env) fp) ifs tt)
    (he : ∀ (s : Shared) (H : Hp) (C : Addr) (cl : List (Str × Addr)) (fp : List Addr), PE (X.blk s H scope (compEnvC scope cl C X.env) fp) elt te) (hs : ∀ x, foldedSetIterable iter X.env x = pure x := by intro _; rfl) :
    PE X (.ListComp elt [⟨tg, iter, ifs, 0⟩] scope pos) (tOrE (tLc wi g tt te (own.map (·.2))) (tLockE (tLc wi g tt te (own.map (·.2))))) := pe_orE (pe_lc hc hN hi ok hg ht he hs) (pe_lcK hc hN hi ok hg ht he hs)
theorem ps_setLcF {X : Cx} {i : Nat} {y : Str} {py : Pos} {elt tg iter : Expr} {ifs : List Expr} {scope : Scope} {own : List (Str × Nat)} {pos spos : Pos} {wi : TI} {g : TG} {tt : TT} {te : TE} (hc : X.calm = true) (hN : X.N.Nodup) (hy : X.N[i]? = some y) (hyl : X.env.scope.names.lookup y = some .local)
    (hsw : swapsWith (.ListComp elt [⟨tg, iter, ifs, 0⟩] scope pos) (some (.Name y py)) spos.line X.env = pure true) (hi : PI X tg iter wi) (ok : BlkOk X.N X.env.scope scope own)
    (hg : ∀ (s : Shared) (H : Hp) (C : Addr) (cl : List (Str × Addr)) (fp : List Addr), PG (X.blk s H scope (compEnvC scope cl C X.env) fp) tg g)
    (ht : ∀ (s : Shared) (H : Hp) (C : Addr) (cl : List (Str × Addr)) (fp : List Addr), PTs (X.blk s H scope (compEnvC scope cl C X.env) fp) ifs tt)
    (he : ∀ (s : Shared) (H : Hp) (C : Addr) (cl : List (Str × Addr)) (fp : List Addr), PE (X.blk s H scope (compEnvC scope cl C X.env) fp) elt te) (hs : ∀ x, foldedSetIterable iter X.env x = pure x := by intro _; rfl) :
    PS X (.Assign [.Name y py] (.ListComp elt [⟨tg, iter, ifs, 0⟩] scope pos) spos) (tAsg (tOrE (tLc wi g tt te (own.map (·.2))) (tLockE (tLc wi g tt te (own.map (·.2))))) (gName i)) :=
  ⟨fun pins s σ H D I h => h.elim (fun h => (ps_setLc hc hN hy hyl hsw hi ok hg ht he hs).run pins s σ H D I h) fun h => (ps_lock (ps_setLc hc hN hy hyl hsw hi ok hg ht he hs)).run pins s σ H D I h⟩
end FM
namespace FM
open PySem PySem.Spec L2 PyProof.Rows
/-! ### a dict of one's own at a place: stored into, taken from -/
section
variable {k : Kc} {E : XK}
theorem StW.fldDicAt {P : List (Nat × V)} {e : Ent} {σ : L2.St} {ρ : List O} {vs : List V} {os : List O} {F H : Hp} {S1 S2 : List Addr} {i c : Nat} {x : Str} {fs : List (Str × O)} {ds : List (Key × PD)} (s : StW k P e σ ρ vs os F H S1 S2) (e0 : qVar i ρ = some (.ins c fs)) (e1 : fs.lookup x = some (.dic ds)) :
    ∃ a dx ws b us, σ[i]? = some (some (.ref a)) ∧ H a = some (.ins (k.cl c) dx ws) ∧ ws.lookup x = some (.ref b) ∧ H b = some (.dK us) ∧ RepK k.K F us ds ∧ ∀ us' ds', RepK k.K F us' ds' → ∃ U, StW k P e σ (ρ.set i (.ins c (pfO x (.dic ds') fs))) vs os F (upd H b (.dK us')) U S2 := by
  obtain ⟨env, tmp, fr, pin⟩ := s
  obtain ⟨g1, g2⟩ := qVar_some e0
  obtain ⟨v, T, R, a1, a2, a3, a4⟩ := env.take g1 g2
  cases a2 with
  | @ins d dx _ es _ T2 hd hk =>
    obtain ⟨v, T3, R3, k1, k2, k3, k4⟩ := hk.take e1
    cases k2 with
    | @dic b us _ h r =>
      have fr2 : Fr e F H (b :: d :: (R3 ++ (R ++ S2))) := Sbp.fr fr (.of_count fun z => by
        have c2 := a4.count_eq z
        have c3 := k4.count_eq z
        simp only [List.count_append, List.count_cons, List.count_nil] at c2 c3 ⊢
        omega)
      have ha : H b = some (.dK us) := by
        rcases h with h | ⟨ob, h⟩
        · exact h
        · exact (fr2.nofz b List.mem_cons_self ob _ h).elim
      refine ⟨d, dx, es, b, us, a1, hd, k1, ha, r, fun us' ds' r' => ?_⟩
      have nd := List.nodup_cons.mp fr2.nd
      have keep : ∀ U : List Addr, (∀ z ∈ U, z ∈ d :: (R3 ++ (R ++ S2))) → At U H (upd H b (.dK us')) := fun U m z mz u q => by
        rw [upd_ne (fun w => nd.1 (by rw [← w]; exact m z mz))]
        exact q
      have fw := fr2.write (a := b) (o := .dK us') List.mem_cons_self (fun _ _ z => by cases z)
      have env3 := a3.mono (Same.refl F) (keep R fun b m => List.mem_cons_of_mem _ (List.mem_append_right _ (List.mem_append_left _ m)))
      have tmp3 := tmp.mono (Same.refl F) (keep S2 fun b m => List.mem_cons_of_mem _ (List.mem_append_right _ (List.mem_append_right _ m)))
      have hk3 := k3.mono (Same.refl F) (keep R3 fun b m => List.mem_cons_of_mem _ (List.mem_append_left _ m))
      have hne : d ≠ b := fun q => nd.1 (by rw [← q]; exact List.mem_cons_self)
      obtain ⟨U3, m3, q3⟩ := hk3.put (x := x) (Own.dic (k := k) (F := F) (.inl upd_same) r')
      rw [pfO_pfO, putF_same k1] at q3
      obtain ⟨U, mU, q⟩ := env3.put (i := i) a1 (Own.ins (k := k) (F := F) (by rw [upd_ne hne]; exact hd) q3)
      rw [List.set_set] at q
      exact ⟨U, q, tmp3, Sbp.fr fw (.of_count fun z => by
        have h1 := mU.count z
        have h2 := m3 z
        simp only [List.count_append, List.count_cons, List.count_nil] at h1 h2 ⊢
        omega), pin⟩
abbrev GD2 := List O → Option (List (Key × PD))
abbrev SD2 := List (Key × PD) → List O → List O
structure PlD (k : Kc) (te : TE) (rd : L2.St → Hp → Option V) (gt : GD2) (st : SD2) : Prop where
  mono : ∀ (σ : L2.St) (H H' : Hp) (a : Addr), Same H H' → rd σ H = some (.ref a) → rd σ H' = some (.ref a)
  at_ : ∀ {P : List (Nat × V)} {e : Ent} {σ : L2.St} {ρ : List O} {vs : List V} {os : List O} {F H : Hp} {S1 S2 : List Addr} {ds : List (Key × PD)}, StW k P e σ ρ vs os F H S1 S2 → gt ρ = some ds →
    ∃ a ws, rd σ H = some (.ref a) ∧ (∀ Q : VK, Q (.ref a) H → te σ H Q) ∧ H a = some (.dK ws) ∧ RepK k.K F ws ds ∧ ∀ ws' ds', RepK k.K F ws' ds' → ∃ U, StW k P e σ (st ds' ρ) vs os F (upd H a (.dK ws')) U S2
def gtV (i : Nat) : GD2 := fun ρ => match qVar i ρ with
  | some (.dic ds) => some ds
  | _ => none
def stV (i : Nat) : SD2 := fun ds ρ => ρ.set i (.dic ds)
theorem pld_var {i : Nat} : PlD k (tVar i) (rdVar i) (gtV i) (stV i) := by
  refine ⟨fun _ _ _ _ _ h => h, fun {P e σ ρ vs os F H S1 S2 ds} s g => ?_⟩
  unfold gtV at g
  split at g
  · rename_i ds' e0
    cases g
    obtain ⟨a, ws, a1, a2, a3, a4⟩ := s.dicAt e0
    exact ⟨a, ws, by unfold rdVar; rw [a1]; rfl, fun Q h => ⟨_, a1, h⟩, a2, a3, a4⟩
  · cases g
def gtF (c i : Nat) (x : Str) : GD2 := fun ρ => match qVar i ρ with
  | some (.ins c' fs) => if c' = c then match fs.lookup x with
    | some (.dic ds) => some ds
    | _ => none
    else none
  | _ => none
def stF (i : Nat) (x : Str) : SD2 := fun ds ρ => match qVar i ρ with
  | some (.ins c fs) => ρ.set i (.ins c (pfO x (.dic ds) fs))
  | _ => ρ
theorem rdFld_mono {rd : L2.St → Hp → Option V} {x : Str} (h : ∀ (σ : L2.St) (H H' : Hp) (a : Addr), Same H H' → rd σ H = some (.ref a) → rd σ H' = some (.ref a)) (σ : L2.St) (H H' : Hp) (a : Addr) (s : Same H H') (e : rdFld rd x σ H = some (.ref a)) : rdFld rd x σ H' = some (.ref a) := by
  unfold rdFld at e ⊢
  split at e
  · rename_i b e1
    split at e
    · rename_i e2
      rw [h σ H H' b s e1]
      simp only [s _ _ e2]
      exact e
    · cases e
  · cases e
theorem pld_fld {c i : Nat} {x : Str} (hc : Cls k.K (k.cl c)) (hn : NoAttr k.K (k.cl c) x) : PlD k (tFld k.K (tVar i) x) (rdFld (rdVar i) x) (gtF c i x) (stF i x) := by
  refine ⟨rdFld_mono fun _ _ _ _ _ h => h, fun {P e σ ρ vs os F H S1 S2 ds} s g => ?_⟩
  unfold gtF at g
  split at g
  · rename_i c' fs e0
    split at g
    · rename_i ec
      subst ec
      split at g
      · rename_i ds' e1
        cases g
        obtain ⟨a, dx, ws, b, us, a1, a2, a3, a4, a5, a6⟩ := s.fldDicAt e0 e1
        refine ⟨b, us, ?_, fun Q h => ⟨.ref a, a1, a, _, dx, ws, _, rfl, a2, hc, hn, a3, h⟩, a4, a5, fun ws' ds' r => ?_⟩
        · have e5 : rdVar i σ H = some (.ref a) := by unfold rdVar; rw [a1]; rfl
          unfold rdFld
          rw [e5]
          simp only [a2]
          exact a3
        · unfold stF
          rw [e0]
          exact a6 ws' ds' r
      · cases g
    · cases g
  · cases g
section
variable {tp : TE} {rd : L2.St → Hp → Option V} {gt : GD2} {st : SD2}
def sSetP (gt : GD2) (st : SD2) (qi : QE) (m : M O) : MS := fun ρ => match m ρ with
  | .ok (.fz d) ρ1 => match gt ρ1 with
    | some ds => match qi ρ1 with
      | some i => match keyO i with
        | some x => if ds.length < sizeLine then .next (st (putD ds x d) ρ1) else .bad
        | none => .bad
      | none => .bad
    | none => .bad
  | .ok _ _ => .bad
  | .exc x ρ1 => .exc x ρ1
  | .bad => .bad
theorem tsm_setP {te ti : TE} {m : M O} {qi : QE} (pl : PlD k tp rd gt st) (h : TEm k E te m) (hi : TEv k ti qi) : TSm k E [] (tAsg te (gSub tp ti rSetU)) (sSetP gt st qi m) := by
  intro P e σ ρ vs os H D o st0 g
  refine h P e σ ρ vs os H _ st0 ?_
  unfold sSetP at g
  cases e1 : m ρ with
  | exc x ρ1 => rw [e1] at g; exact g.exc
  | bad => rw [e1] at g; exact g
  | ok z ρ1 =>
    rw [e1] at g
    intro v H1 s1
    cases z with
    | fz d =>
      simp only at g
      obtain ⟨F, S1, S2, s1⟩ := s1
      split at g
      · rename_i ds e2
        split at g
        · rename_i i e3
          split at g
          · rename_i x e4
            split at g
            · rename_i hz
              obtain ⟨a, ws, a1, a2, a3, a4, a5⟩ := pl.at_ s1 e2
              refine a2 _ (hi F H1 σ ρ1 S1 _ _ s1.qs e3 fun w F2 H2 x2 w2 => ?_)
              have s2 := s1.xt x2
              obtain ⟨a', ws2, b1, b2, b3, b4, b5⟩ := pl.at_ s2 e2
              rw [pl.mono σ H1 H2 a x2.ex a1] at b1
              cases b1
              have rdd := s2.top.1
              have ew := w2.keyO e4
              subst ew
              refine .inr ⟨a, _, rfl, DPut.k b3 (by rw [b4.len']; exact hz), ?_⟩
              obtain ⟨U, s5⟩ := b5 _ _ (b4.put rdd)
              obtain ⟨_, s6⟩ := s5.top
              exact g σ _ ⟨F2, U, S2, s6⟩
            · exact g.elim
          · exact g.elim
        · exact g.elim
      · exact g.elim
    | _ => exact g.elim
def dropD {α : Type} (ds : List (Key × α)) (x : Key) : List (Key × α) := ds.filter fun kv => decide (kv.1 ≠ x)
theorem RepK.drop {K : Frag} {F : Hp} {x : Key} : ∀ {vs : List (Key × V)} {ds : List (Key × PD)}, RepK K F vs ds → RepK K F (dropK vs x) (dropD ds x)
  | _, _, .nil => .nil
  | (y, w) :: _, (_, d) :: _, .cons h r => by
    have ih := RepK.drop (x := x) r
    unfold dropK dropD at ih ⊢
    by_cases c : y = x
    · rw [List.filter_cons_of_neg (by simp [c]), List.filter_cons_of_neg (by simp [c])]
      exact ih
    · rw [List.filter_cons_of_pos (by simp [c]), List.filter_cons_of_pos (by simp [c])]
      exact .cons h ih
def mPopP (gt : GD2) (st : SD2) (qi : QE) : M O := fun ρ => match gt ρ with
  | some ds => match qi ρ with
    | some i => match keyO i with
      | some x => match lk ds x with
        | some d => .ok (.fz d) (st (dropD ds x) ρ)
        | none => .bad
      | none => .bad
    | none => .bad
  | none => .bad
theorem tem_popP {ti : TE} {qi : QE} (pl : PlD k tp rd gt st) (hi : TEv k ti qi) : TEm k E (tDPop1 tp ti) (mPopP gt st qi) := by
  intro P e σ ρ vs os H Q s g
  unfold mPopP at g
  split at g
  · rename_i ds e2
    split at g
    · rename_i i e3
      split at g
      · rename_i x e4
        split at g
        · rename_i d e5
          obtain ⟨F, S1, S2, s1⟩ := s
          obtain ⟨a, ws, a1, a2, a3, a4, a5⟩ := pl.at_ s1 e2
          refine a2 _ ⟨a, rfl, .inl ⟨ws, .inl a3⟩, hi F H σ ρ S1 _ _ s1.qs e3 fun w F2 H2 x2 w2 => ?_⟩
          have s2 := s1.xt x2
          obtain ⟨a', ws2, b1, b2, b3, b4, b5⟩ := pl.at_ s2 e2
          rw [pl.mono σ H H2 a x2.ex a1] at b1
          cases b1
          have ew := w2.keyO e4
          rcases b4.val x with ⟨z, _⟩ | ⟨d', v, z, ev, rv⟩
          · rw [z] at e5; cases e5
          · rw [z] at e5
            cases e5
            refine ⟨ws2, x, v, b3, ew, ev, ?_⟩
            obtain ⟨U, s5⟩ := b5 _ _ (b4.drop (x := x))
            exact g v _ ⟨F2, U, [] ++ S2, s5.env, .cons (.fz rv) s5.tmp, s5.fr, s5.pin⟩
        · exact g.elim
      · exact g.elim
    · exact g.elim
  · exact g.elim
@[simp] theorem wM_popP {qi : QE} {ρ : List O} {Q : O → List O → Prop} : wM (mPopP gt st qi ρ) Q = ∃ ds, gt ρ = some ds ∧ ∃ i, qi ρ = some i ∧ ∃ x, keyO i = some x ∧ ∃ d, lk ds x = some d ∧ Q (.fz d) (st (dropD ds x) ρ) := by
  unfold mPopP
  cases e : gt ρ with
  | none => simp [wM]
  | some ds =>
    cases e2 : qi ρ with
    | none => simp [wM]
    | some i =>
      cases e3 : keyO i with
      | none => simp [wM, e3]
      | some x => cases e4 : lk ds x <;> simp [wM, e3, e4]
@[simp] theorem wS_setP {m : M O} {qi : QE} {ρ : List O} {nx bk ct : List O → Prop} {rt : O → List O → Prop} : wS (sSetP gt st qi m ρ) nx rt bk ct = wM (m ρ) fun o ρ1 => ∃ d, o = .fz d ∧ ∃ ds, gt ρ1 = some ds ∧ ∃ i, qi ρ1 = some i ∧ ∃ x, keyO i = some x ∧ ds.length < sizeLine ∧ nx (st (putD ds x d) ρ1) := by
  unfold sSetP
  cases e : m ρ with
  | ok o ρ1 =>
    simp only [wM_ok]
    cases o with
    | fz d =>
      cases e1 : gt ρ1 with
      | none => simp [wS, e1]
      | some ds =>
        cases e2 : qi ρ1 with
        | none => simp [wS, e1, e2]
        | some i =>
          cases e3 : keyO i with
          | none => simp [wS, e1, e2, e3]
          | some x => by_cases h : ds.length < sizeLine <;> simp [wS, e1, e2, e3, h]
    | _ => simp [wS]
  | exc x ρ1 => simp [wS, wM]
  | bad => simp [wS, wM]
end
@[simp] theorem gtV_eq {i : Nat} {ρ : List O} : gtV i ρ = match qVar i ρ with
  | some (.dic ds) => some ds
  | _ => none := rfl
@[simp] theorem stV_eq {i : Nat} {ds : List (Key × PD)} {ρ : List O} : stV i ds ρ = ρ.set i (.dic ds) := rfl
@[simp] theorem gtF_eq {c i : Nat} {x : Str} {ρ : List O} : gtF c i x ρ = match qVar i ρ with
  | some (.ins c' fs) => if c' = c then match fs.lookup x with
    | some (.dic ds) => some ds
    | _ => none
    else none
  | _ => none := rfl
@[simp] theorem stF_eq {i : Nat} {x : Str} {ds : List (Key × PD)} {ρ : List O} : stF i x ds ρ = match qVar i ρ with
  | some (.ins c fs) => ρ.set i (.ins c (pfO x (.dic ds) fs))
  | _ => ρ := rfl
/-! ### o.x += e, ints -/
def sAugF (c i : Nat) (x : Str) (q : QE) : MS := fun ρ => match qVar i ρ with
  | some (.ins c' fs) => if c' = c ∧ fs.length < 1000 then match fs.lookup x with
    | some (.fz (.int a)) => match q ρ with
      | some (.fz (.int b)) => .next (ρ.set i (.ins c (pfO x (.fz (.int (a + b))) fs)))
      | _ => .bad
    | _ => .bad
    else .bad
  | _ => .bad
theorem tsm_augF {c i : Nat} {x : Str} {te : TE} {q : QE} (hc : Cls k.K (k.cl c)) (hn : NoAttr k.K (k.cl c) x) (h : TEv k te q) : TSm k E [] (sFldAug k.K (tVar i) te rAdd x) (sAugF c i x q) := by
  intro P e σ ρ vs os H D o s g
  unfold sAugF at g
  split at g
  · rename_i c' fs e0
    split at g
    · rename_i hz
      obtain ⟨rfl, hz⟩ := hz
      split at g
      · rename_i a e1
        split at g
        · rename_i b e2
          obtain ⟨F, S1, S2, s⟩ := s
          have key : ∃ p dx ws, σ[i]? = some (some (.ref p)) ∧ H p = some (.ins (k.cl c') dx ws) ∧ ws.lookup x = some (.int a) := by
            obtain ⟨g1, g2⟩ := qVar_some e0
            obtain ⟨w, T, R, a1, a2, a3, a4⟩ := s.env.take g1 g2
            cases a2 with
            | @ins p dx _ ws _ T2 hd hk =>
              obtain ⟨v, T3, R3, b1, b2, b3, b4⟩ := hk.take e1
              have hv : v = .int a := by
                cases b2 with
                | fz r => exact (Vw.fz (k := k) (H := H) (S := []) r).int
              subst hv
              exact ⟨p, dx, ws, a1, hd, b1⟩
          obtain ⟨p, dx, ws, k1, k2, k3⟩ := key
          refine ⟨.ref p, k1, p, _, dx, ws, _, rfl, k2, hc, hn, k3, h F H σ ρ S1 _ _ s.qs e2 fun w F2 H2 x2 w2 => ?_⟩
          have hw := w2.int
          subst hw
          refine ⟨a, b, rfl, rfl, ?_⟩
          have s2 := s.xt x2
          have s3 : StW k P e σ ρ (.int (a + b) :: vs) (.fz (.int (a + b)) :: os) F2 H2 S1 ([] ++ S2) := ⟨s2.env, .cons (.fz (.int _)) s2.tmp, s2.fr, s2.pin⟩
          obtain ⟨a', dx', ws', a1, a2, a3, U, S3, s5⟩ := s3.fldPut (x := x) e0
          rw [k1] at a1
          cases a1
          exact ⟨dx', ws', a2, by rw [a3]; exact hz, g σ _ ⟨F2, U, S3, s5⟩⟩
        · exact g.elim
      · exact g.elim
    · exact g.elim
  · exact g.elim
@[simp] theorem wS_augF {c i : Nat} {x : Str} {q : QE} {ρ : List O} {nx bk ct : List O → Prop} {rt : O → List O → Prop} : wS (sAugF c i x q ρ) nx rt bk ct = ∃ fs, qVar i ρ = some (.ins c fs) ∧ fs.length < 1000 ∧ ∃ a, fs.lookup x = some (.fz (.int a)) ∧ ∃ b, q ρ = some (.fz (.int b)) ∧ nx (ρ.set i (.ins c (pfO x (.fz (.int (a + b))) fs))) := by
  unfold sAugF
  split
  · rename_i c' fs e0
    split
    · rename_i hz
      obtain ⟨rfl, hz⟩ := hz
      split
      · rename_i a e1
        split
        · rename_i b e2
          exact propext ⟨fun h => ⟨fs, e0, hz, a, e1, b, e2, h⟩, fun ⟨fs', e0', _, a', e1', b', e2', h⟩ => by
            rw [e0] at e0'; cases e0'
            rw [e1] at e1'; cases e1'
            rw [e2] at e2'; cases e2'
            exact h⟩
        · rename_i hb
          exact propext ⟨fun h => h.elim, fun ⟨_, _, _, _, _, b, e2, _⟩ => hb b e2⟩
      · rename_i ha
        exact propext ⟨fun h => h.elim, fun ⟨fs', e0', _, a, e1, _⟩ => by
          rw [e0] at e0'; cases e0'
          exact ha a e1⟩
    · rename_i hz
      exact propext ⟨fun h => h.elim, fun ⟨fs', e0', hl, _⟩ => by
        rw [e0] at e0'; cases e0'
        exact hz ⟨rfl, hl⟩⟩
  · rename_i hn
    exact propext ⟨fun h => h.elim, fun ⟨fs, e0, _⟩ => hn c fs e0⟩
end
end FM
namespace FM
open PySem PySem.Spec L2 PyProof.Rows
/-! ### list(d): its keys -/
section
variable {k : Kc} {E : XK}
def rListD : List V → Hp → VK → Prop := fun xs H Q => ∃ (a : Addr) (kvs : List (Key × V)), xs = [.ref a] ∧ Rd H a (.dK kvs) ∧ ∀ p, H p = none → Q (.ref p) (upd H p (.lst (kvs.map fun kv => kV kv.1)))
theorem cr_listD {X : Cx} (hc : X.calm = true) : CallR X (.type "list") rListD := call_listD hc
def oListD : List O → Option O
  | [x] => (dicK x).map fun ds => .lst (keysD ds)
  | _ => none
theorem keysD_reps {K : Frag} {F : Hp} : ∀ {vs : List (Key × V)} {ds : List (Key × PD)}, RepK K F vs ds → Reps K F (vs.map fun kv => kV kv.1) (keysD ds)
  | _, _, .nil => .nil
  | (x, _) :: _, (_, _) :: _, .cons h r => .cons (rep_key x) (keysD_reps r)
theorem cn_listD : CbN k rListD oListD := by
  intro F H S xs os o Q f off th ws e h
  unfold oListD at e
  split at e
  · cases ws with
    | cons w ws =>
      cases ws
      obtain ⟨ds, es, eo⟩ := Option.map_eq_some_iff.mp e
      subst eo
      obtain ⟨a, vs, rfl, g1, g2⟩ := w.dicK f es
      exact ⟨a, vs, rfl, g1, own_list f (keysD_reps g2) h⟩
  · cases e
@[simp] theorem oListD_dic {ds : List (Key × PD)} : oListD [.dic ds] = some (.lst (keysD ds)) := rfl
/-! ### d != e, two dicts with the same keys and the same ints -/
def sameI (ds es : List (Key × PD)) : Bool := ds.length == es.length && ds.all fun p => match p.2, lk es p.1 with
  | .int i, some (.int j) => i == j
  | _, _ => false
def rNeDI : R2 := fun x y H Q => ∃ a b ks ls, x = .ref a ∧ y = .ref b ∧ Rd H a (.dK ks) ∧ Rd H b (.dK ls) ∧ ks.length = ls.length ∧ (∀ p ∈ ks, ∃ i : Int, p.2 = .int i ∧ valV ls p.1 = some (.int i)) ∧ Q (.bl false) H
theorem hitsI {A : Around} {s : Shared} {ls : List (Key × V)} {vb : List (Key × Value)} (rb : KV ls vb) {ks : List (Key × V)} {va : List (Key × Value)} (ra : KV ks va) : (∀ p ∈ ks, ∃ i : Int, p.2 = .int i ∧ valV ls p.1 = some (.int i)) → PySem.W.KeqHits A s vb va true := by
  unfold KV at ra
  induction ra with
  | nil => intro _; exact .nil
  | @cons p q ps qs h t k =>
    intro hp
    obtain ⟨h1, h2⟩ := h
    obtain ⟨i, e1, e2⟩ := hp p List.mem_cons_self
    have rr : RelO (some (.int i)) (valueAt vb p.1) := by rw [← e2]; exact rb.val p.1
    obtain ⟨y, hy, ry⟩ := rr.some_of
    obtain ⟨key, v⟩ := q
    have h1' : p.1 = key := h1
    rw [h1'] at hy
    rw [e1] at h2
    show PySem.W.KeqHits A s vb ((key, v) :: qs) (true && true)
    exact .hit hy (eqAt_same h2 ry rfl) (k fun p' hm => hp p' (List.mem_cons_of_mem _ hm))
theorem RepK.sameP {K : Frag} {F : Hp} {ls : List (Key × V)} {es : List (Key × PD)} (r2 : RepK K F ls es) : ∀ {ks : List (Key × V)} {ds : List (Key × PD)}, RepK K F ks ds → (ds.all fun p => match p.2, lk es p.1 with
      | .int i, some (.int j) => i == j
      | _, _ => false) = true → ∀ p ∈ ks, ∃ i : Int, p.2 = .int i ∧ valV ls p.1 = some (.int i)
  | _, _, .nil, _, p, m => by cases m
  | (x, v) :: vs, (_, d) :: ds, .cons h r, c, p, m => by
    rw [List.all_cons, Bool.and_eq_true] at c
    rcases List.mem_cons.mp m with e1 | m
    · subst e1
      have c1 := c.1
      simp only at c1
      split at c1
      · rename_i i j e2
        have ej := eq_of_beq c1
        subst ej
        refine ⟨i, ?_, ?_⟩
        · cases h with
          | int => rfl
          | dic _ _ e => cases e
          | dit _ _ e => cases e
        · rcases r2.val x with ⟨z, _⟩ | ⟨d', v', z, ev, rv⟩
          · rw [z] at e2; cases e2
          · rw [z] at e2
            cases e2
            rw [ev]
            cases rv with
            | int => rfl
            | dic _ _ e => cases e
            | dit _ _ e => cases e
      · cases c1
    · exact RepK.sameP r2 r c.2 p m
theorem RepK.sameI {K : Frag} {F H : Hp} {a b : Addr} {ks ls : List (Key × V)} {ds es : List (Key × PD)} {Q : VK} (ha : Rd H a (.dK ks)) (hb : Rd H b (.dK ls)) (r1 : RepK K F ks ds) (r2 : RepK K F ls es) (e : FM.sameI ds es = true) (q : Q (.bl false) H) : rNeDI (.ref a) (.ref b) H Q := by
  unfold FM.sameI at e
  have e' := Bool.and_eq_true_iff.mp e
  exact ⟨a, b, ks, ls, rfl, rfl, ha, hb, by rw [r1.len', r2.len']; exact eq_of_beq e'.1, RepK.sameP r2 r1 e'.2, q⟩
theorem StW.topDic {P : List (Nat × V)} {e : Ent} {σ : L2.St} {ρ : List O} {vs : List V} {os : List O} {F H : Hp} {S1 S2 : List Addr} {v : V} {ds : List (Key × PD)} (s : StW k P e σ ρ (v :: vs) (.dic ds :: os) F H S1 S2) : ∃ a ws U, v = .ref a ∧ H a = some (.dK ws) ∧ RepK k.K F ws ds ∧ S2 = a :: U ∧ StW k P e σ ρ vs os F H S1 U ∧ ∀ ws', StW k P e σ ρ vs os F (upd H a (.dK ws')) S1 U := by
  obtain ⟨env, tmp, fr, pin⟩ := s
  cases tmp with
  | @cons _ _ _ _ T U w r =>
    cases w with
    | @dic a ws _ h rr =>
      have fr' : Fr e F H (a :: (S1 ++ U)) := Sbp.fr fr (.of_count fun b => by
        simp only [List.count_append, List.count_cons, List.count_nil]
        omega)
      have ha : H a = some (.dK ws) := by
        rcases h with h | ⟨ob, h⟩
        · exact h
        · exact (fr'.nofz a List.mem_cons_self ob _ h).elim
      have nd := List.nodup_cons.mp fr'.nd
      refine ⟨a, ws, U, rfl, ha, rr, rfl, ⟨env, r, fr'.sub (List.sublist_cons_self _ _), pin⟩, fun ws' => ?_⟩
      have keep : ∀ W : List Addr, (∀ b ∈ W, b ∈ S1 ++ U) → At W H (upd H a (.dK ws')) := fun W m b mb u z => by
        rw [upd_ne (fun q => nd.1 (by rw [← q]; exact m b mb))]
        exact z
      have fw := fr'.write (a := a) (o := .dK ws') List.mem_cons_self (fun _ _ z => by cases z)
      exact ⟨env.mono (Same.refl F) (keep S1 fun b m => List.mem_append_left _ m), r.mono (Same.refl F) (keep U fun b m => List.mem_append_right _ m), fw.sub (List.sublist_cons_self _ _), pin⟩
/-! ### methods of what is told -/
end
end FM
namespace FM
open PySem PySem.Spec L2 PyProof.Rows
/-! ### a method of a list in one's own record, its arguments with effects elsewhere -/
section
variable {k : Kc} {E : XK}
mutual
def immX : O → Bool
  | .fz d => imm d
  | .lst ds => imms ds
  | .dic ds => ds.all fun p => imm p.2
  | .dit ds => ds.all fun p => imm p.2
  | .nst os => immXs os
  | .ntp os => immXs os
  | .ndc kvs => immXk kvs
  | .ins _ fs => immXf fs
  | .ktp _ => false
  | .ctp _ => false
  | .exo _ => false
  | .cod _ => false
  | .dnk _ => false
  | .dead => true
def immXs : List O → Bool
  | [] => true
  | o :: os => immX o && immXs os
def immXk : List (Key × O) → Bool
  | [] => true
  | (_, o) :: os => immX o && immXk os
def immXf : List (Str × O) → Bool
  | [] => true
  | (_, o) :: os => immX o && immXf os
end
theorem RepT.immH {K : Frag} {F G : Hp} (s : ∀ a vs, RdT F a vs → RefT F vs → RdT G a vs) : ∀ {v : List (List Key × V)} {d : List (List Key × PD)}, RepT K F v d → (d.all fun p => imm p.2) = true → RepT K G v d
  | _, _, .nil, _ => .nil
  | _, _, .cons h r, e => by
    rw [List.all_cons, Bool.and_eq_true] at e
    exact .cons (Rep.immH s h e.1) (RepT.immH s r e.2)
mutual
theorem Own.immX {k : Kc} {F G H : Hp} (s : ∀ a vs, RdT F a vs → RefT F vs → RdT G a vs) : ∀ {v : V} {o : O} {S : List Addr}, Own k F H v o S → FM.immX o = true → Own k G H v o S
  | _, _, _, .fz h, e => .fz (h.immH s (by simpa only [FM.immX] using e))
  | _, _, _, .lst h r, e => .lst h (Reps.immH s r (by simpa only [FM.immX] using e))
  | _, _, _, .dic h r, e => .dic h (RepK.immH s r (by simpa only [FM.immX] using e))
  | _, _, _, .dit h r, e => .dit h (RepT.immH s r (by simpa only [FM.immX] using e))
  | _, _, _, .nst h r, e => .nst h (Owns.immX s r (by simpa only [FM.immX] using e))
  | _, _, _, .ntp h g r, e => .ntp h g (Owns.immX s r (by simpa only [FM.immX] using e))
  | _, _, _, .ndc h r, e => .ndc h (OwnK.immX s r (by simpa only [FM.immX] using e))
  | _, _, _, .ins h r, e => .ins h (OwnF.immX s r (by simpa only [FM.immX] using e))
  | _, _, _, .ktp _ _, e => by simp [FM.immX] at e
  | _, _, _, .ctp _ _ _ _ _, e => by simp [FM.immX] at e
  | _, _, _, .exo _ _ _ _, e => by simp [FM.immX] at e
  | _, _, _, .cod, e => by simp [FM.immX] at e
  | _, _, _, .dnk _ _, e => by simp [FM.immX] at e
  | _, _, _, .dead, e => .dead
theorem Owns.immX {k : Kc} {F G H : Hp} (s : ∀ a vs, RdT F a vs → RefT F vs → RdT G a vs) : ∀ {v : List V} {o : List O} {S : List Addr}, Owns k F H v o S → FM.immXs o = true → Owns k G H v o S
  | _, _, _, .nil, _ => .nil
  | _, _, _, .cons h r, e => by
    have e' : _ ∧ _ := Bool.and_eq_true_iff.mp (by simpa only [FM.immXs] using e)
    exact .cons (Own.immX s h e'.1) (Owns.immX s r e'.2)
theorem OwnK.immX {k : Kc} {F G H : Hp} (s : ∀ a vs, RdT F a vs → RefT F vs → RdT G a vs) : ∀ {v : List (Key × V)} {o : List (Key × O)} {S : List Addr}, OwnK k F H v o S → FM.immXk o = true → OwnK k G H v o S
  | _, _, _, .nil, _ => .nil
  | _, _, _, .cons h r, e => by
    have e' : _ ∧ _ := Bool.and_eq_true_iff.mp (by simpa only [FM.immXk] using e)
    exact .cons (Own.immX s h e'.1) (OwnK.immX s r e'.2)
theorem OwnF.immX {k : Kc} {F G H : Hp} (s : ∀ a vs, RdT F a vs → RefT F vs → RdT G a vs) : ∀ {v : List (Str × V)} {o : List (Str × O)} {S : List Addr}, OwnF k F H v o S → FM.immXf o = true → OwnF k G H v o S
  | _, _, _, .nil, _ => .nil
  | _, _, _, .cons h r, e => by
    have e' : _ ∧ _ := Bool.and_eq_true_iff.mp (by simpa only [FM.immXf] using e)
    exact .cons (Own.immX s h e'.1) (OwnF.immX s r e'.2)
end
/-- slots that stay, or lean on nothing that changes -/
def keepOK : List O → List O → Prop
  | [], [] => True
  | o :: ρ, o1 :: ρ1 => (immX o1 = true ∨ ∃ d, o1 = .fz d ∧ o = .fz d) ∧ keepOK ρ ρ1
  | _, _ => False
theorem Envs.keep {F F1 G H H1 : Hp} (sg : Same F G) (s : ∀ a vs, RdT F1 a vs → RefT F1 vs → RdT G a vs) : ∀ {σ : L2.St} {ρ ρ1 : List O} {S S1 : List Addr}, Envs k F H σ ρ S → Envs k F1 H1 σ ρ1 S1 → keepOK ρ ρ1 → Envs k G H1 σ ρ1 S1
  | _, _, _, _, _, .nil, .nil, _ => .nil
  | _, _, _, _, _, .dead r, .dead r1, e => .dead (Envs.keep sg s r r1 e.2)
  | _, _, _, _, _, .cons w r, .dead r1, e => .dead (Envs.keep sg s r r1 e.2)
  | _, _, _, _, _, .dead r, .cons w1 r1, e => by
    refine .cons ?_ (Envs.keep sg s r r1 e.2)
    rcases e.1 with q | ⟨d, _, q⟩
    · exact w1.immX s q
    · cases q
  | _, _, _, _, _, .cons w r, .cons w1 r1, e => by
    refine .cons ?_ (Envs.keep sg s r r1 e.2)
    rcases e.1 with q | ⟨d, q1, q⟩
    · exact w1.immX s q
    · subst q1 q
      cases w1 with
      | fz _ =>
        cases w with
        | fz h => exact .fz (h.sub sg)
/-- behind what ran while T was frozen -/
theorem Fr.scope {e : Ent} {F H F1 H1 : Hp} {T R S2 S' : List Addr} (f : Fr e F H (T ++ (R ++ S2))) (c : Fr ⟨over F H T, H, R⟩ F1 H1 S') : Fr e (fun a => if a ∈ T then none else F1 a) H1 (T ++ (S' ++ S2)) ∧ At (T ++ S2) H H1 ∧ Same F (fun a => if a ∈ T then none else F1 a) ∧ ∀ a ∈ T, ∀ u, H a = some u → F1 a = some u := by
  have f2 := f.freeze
  obtain ⟨g, at2⟩ := f2.call c
  have nd := List.nodup_append.mp f.nd
  have notR : ∀ a ∈ T, a ∉ R := fun a m z => nd.2.2 a m a (List.mem_append_left _ z) rfl
  have atT : At T H H1 := fun a m u z => c.keep a u z (notR a m)
  have offT : ∀ a ∈ T, F a = none := fun a m => f.off a (List.mem_append_left _ m)
  have sF : Same F (fun a => if a ∈ T then none else F1 a) := fun a u z => by
    have n : a ∉ T := fun m => by rw [offT a m] at z; cases z
    show (if a ∈ T then none else F1 a) = _
    rw [if_neg n]
    exact c.f0 a u (by show over F H T a = _; rw [over_out n]; exact z)
  have notS : ∀ a ∈ T, a ∉ S' ++ S2 := fun a m z => by
    rcases List.mem_append.mp z with z | z
    · rcases c.own a z with q | q
      · exact notR a m q
      · exact (f.there a (List.mem_append_left _ m)).1 q
    · exact nd.2.2 a m a (List.mem_append_right _ z) rfl
  refine ⟨⟨fun a u z => ?_, ?_, fun a m => ?_, fun a m => ?_, fun a m o u z => ?_, fun a m => ?_, ?_, fun a u z => ?_, g.keep, g.dom⟩, fun a m => (List.mem_append.mp m).elim (atT a) (at2 a), sF, fun a m u z => c.f0 a u (by show over F H T a = _; rw [over_in m]; exact z)⟩
  · by_cases n : a ∈ T
    · simp only [if_pos n] at z; cases z
    · simp only [if_neg n] at z
      exact g.fle a u z
  · exact List.nodup_append.mpr ⟨nd.1, g.nd, fun a h1 b h2 z => notS a h1 (by rw [z]; exact h2)⟩
  · show (if a ∈ T then none else F1 a) = none
    by_cases n : a ∈ T
    · rw [if_pos n]
    · rw [if_neg n]
      exact g.off a ((List.mem_append.mp m).resolve_left n)
  · by_cases n : a ∈ T
    · have th := f.there a (List.mem_append_left _ n)
      cases w : H a with
      | none => exact absurd w th.1
      | some y =>
        have w2 := atT a n y w
        refine ⟨by rw [w2]; simp, fun u g z => ?_⟩
        rw [w2] at z
        cases z
        exact th.2 _ g w
    · exact g.there a ((List.mem_append.mp m).resolve_left n)
  · by_cases n : a ∈ T
    · cases w : H a with
      | none => exact (f.there a (List.mem_append_left _ n)).1 w
      | some y =>
        rw [atT a n y w] at z
        cases z
        exact f.nofz a (List.mem_append_left _ n) o u w
    · exact g.nofz a ((List.mem_append.mp m).resolve_left n) o u z
  · by_cases n : a ∈ T
    · exact f.own a (List.mem_append_left _ n)
    · exact g.own a ((List.mem_append.mp m).resolve_left n)
  · exact f.f0.trans sF
  · by_cases n : a ∈ T
    · simp only [if_pos n] at z; cases z
    · simp only [if_neg n] at z
      exact g.fnew a u z
end
end FM
namespace FM
open PySem PySem.Spec L2 PyProof.Rows
/-! ### dict(pairs), ints for keys, none twice -/
section
variable {k : Kc} {E : XK}
def unkI : List PD → Option (List (Key × PD))
  | [] => some []
  | .tuple [.int i, d] :: r => (unkI r).map fun z => (.inl i, d) :: z
  | _ :: _ => none
theorem unkI_pairs {K : Frag} {F H : Hp} (f : FLe F H) : ∀ {ds : List PD} {es : List (Key × PD)} {vs : List V}, unkI ds = some es → Reps K F vs ds → ∃ (ps : List Addr) (kvs : List (Key × V)), vs = ps.map V.ref ∧ Paired (fun p kv => SqT K H p [kV kv.1, kv.2]) ps kvs ∧ RepK K F kvs es
  | [], es, vs, e, r => by
    cases r
    cases e
    exact ⟨[], [], rfl, .nil, .nil⟩
  | d :: ds, es, vs, e, r => by
    cases r with
    | @cons v _ vs _ r1 r2 =>
      unfold unkI at e
      split at e
      · cases ‹_ :: _ = []›
      · rename_i i z r' h0
        injection h0 with h1 h2
        subst h1 h2
        obtain ⟨es', e1, e2⟩ := Option.map_eq_some_iff.mp e
        subst e2
        obtain ⟨ps, kvs, a1, a2, a3⟩ := unkI_pairs f e1 r2
        cases r1 with
        | @tup a us _ g1 g2 =>
          cases g2 with
          | cons b1 b2 =>
            cases b2 with
            | @cons w _ _ _ c1 c2 =>
              cases c2
              cases b1 with
              | int =>
                exact ⟨a :: ps, (.inl i, w) :: kvs, by rw [a1]; rfl, .cons (sqT_le f g1.sq) a2, .cons c1 a3⟩
              | dic _ _ e => cases e
              | dit _ _ e => cases e
        | dic _ _ e => cases e
        | dit _ _ e => cases e
      · cases e
open Classical in
noncomputable def oDictI : List O → Option O
  | [x] => match seqL x with
    | some ds => match unkI ds with
      | some es => if (es.map (·.1)).Nodup then some (.dic es) else none
      | none => none
    | none => none
  | _ => none
theorem cn_dictI : CbN k (rDictP k.K) oDictI := by
  intro F H S xs os o Q f off th ws e h
  unfold oDictI at e
  split at e
  · cases ws with
    | cons w ws =>
      cases ws
      split at e
      · rename_i ds es
        split at e
        · rename_i es' eu
          split at e
          · rename_i nd
            cases e
            obtain ⟨a, vs, rfl, g1, g2⟩ := w.seqL f es
            obtain ⟨ps, kvs, rfl, p2, p3⟩ := unkI_pairs f eu g2
            have em : mergeK [] kvs = kvs := mergeK_new (kvs := []) (by rw [List.nil_append, p3.keys1]; exact nd)
            refine ⟨a, ps, kvs, rfl, g1, p2, ?_⟩
            rw [em]
            exact own_dicK f p3 h
          · cases e
        · cases e
      · cases e
  · cases e
theorem oDictI_eq {ds : List PD} {es : List (Key × PD)} (h1 : unkI ds = some es) (h2 : (es.map (·.1)).Nodup) : oDictI [.fz (.list ds)] = some (.dic es) := by
  unfold oDictI
  have e : seqL (.fz (.list ds)) = some ds := rfl
  simp only [e, h1]
  exact if_pos h2
/-! ### an entry of a frozen record, walked -/
/-! ### d == e, two dicts with the same keys and the same ints -/
def rEqDI : R2 := fun x y H Q => ∃ a b ks ls, x = .ref a ∧ y = .ref b ∧ Rd H a (.dK ks) ∧ Rd H b (.dK ls) ∧ ks.length = ls.length ∧ (∀ p ∈ ks, ∃ i : Int, p.2 = .int i ∧ valV ls p.1 = some (.int i)) ∧ Q (.bl true) H
theorem op_eqDI {X : Cx} (hu : X.A.units + 64 < cLine) : OpR X (compareOp .Eq) rEqDI := by
  intro pins s σ H x y v u Q I rx ry h
  obtain ⟨a, b, ks, ls, rfl, rfl, ha, hb, hl, hp, q⟩ := h
  cases (show v = Value.ref a from rx)
  cases (show u = Value.ref b from ry)
  obtain ⟨_, ya, va, ra, da⟩ := dk_rd I.hok ha
  obtain ⟨_, yb, vb, rb, db⟩ := dk_rd I.hok hb
  refine PySem.W.keq_eq (knd := mixKind X.prog X.w) (r := true) ya yb da db (by omega) (fun _ => hitsI rb ra hp) ?_
  have e : va.length = vb.length := by rw [← ra.length, ← rb.length]; exact hl
  rw [show (va.length == vb.length && true) = true from by rw [e]; simp]
  exact ⟨.bl true, H, I, rfl, q⟩
/-! ### one's own, or none -/
end
end FM
namespace FM
open PySem PySem.Spec L2 PyProof.Rows
/-! ### a field as a target among others -/
section
variable {k : Kc} {E : XK}
/-! ### a told dict == a dict that is read -/
def mEqDV (m1 : M O) (q2 : QE) : M O := fun ρ => match m1 ρ with
  | .ok (.dic ds) ρ1 => match q2 ρ1 with
    | some o2 => match dicK o2 with
      | some es => if sameI ds es then .ok (.fz (.bool true)) ρ1 else .bad
      | none => .bad
    | none => .bad
  | .ok _ _ => .bad
  | .exc x ρ1 => .exc x ρ1
  | .bad => .bad
theorem tem_eqDV {te t2 : TE} {m1 : M O} {q2 : QE} (h1 : TEm k E te m1) (h2 : TEv k t2 q2) : TEm k E (tOp rEqDI te t2) (mEqDV m1 q2) := by
  intro P e σ ρ vs os H Q s g
  refine h1 P e σ ρ vs os H _ s ?_
  unfold mEqDV at g
  cases e1 : m1 ρ with
  | bad => rw [e1] at g; exact g
  | exc x ρ1 => rw [e1] at g; exact g
  | ok o1 ρ1 =>
    rw [e1] at g
    intro v H1 s1
    cases o1 with
    | dic ds =>
      simp only at g
      cases e2 : q2 ρ1 with
      | none => rw [e2] at g; exact g.elim
      | some o2 =>
        rw [e2] at g
        simp only at g
        split at g
        · rename_i es e3
          split at g
          · rename_i hs
            obtain ⟨F, S1, S2, s1⟩ := s1
            obtain ⟨a, ws, U, rfl, a2, a3, rfl, s2, _⟩ := s1.topDic
            refine h2 F H1 σ ρ1 S1 o2 _ s2.qs e2 fun w F2 H2 x2 w2 => ?_
            obtain ⟨b, us, rfl, b1, b2⟩ := w2.dicK x2.fle e3
            have s4 := s2.xt x2
            have hs' := Bool.and_eq_true_iff.mp (show (ds.length == es.length && _) = true from hs)
            exact ⟨a, b, ws, us, rfl, rfl, .inl (x2.ex _ _ a2), b1, by rw [a3.len', b2.len']; exact eq_of_beq hs'.1, RepK.sameP b2 (a3.sub x2.sub) hs'.2, g _ _ ⟨F2, S1, [] ++ U, s4.env, .cons (.fz (.bl _)) s4.tmp, s4.fr, s4.pin⟩⟩
          · exact g.elim
        · exact g.elim
    | _ => exact g.elim
@[simp] theorem wM_eqDV {m1 : M O} {q2 : QE} {ρ : List O} {Q : O → List O → Prop} : wM (mEqDV m1 q2 ρ) Q = wM (m1 ρ) fun o ρ1 => ∃ ds, o = .dic ds ∧ ∃ o2, q2 ρ1 = some o2 ∧ ∃ es, dicK o2 = some es ∧ sameI ds es = true ∧ Q (.fz (.bool true)) ρ1 := by
  unfold mEqDV
  cases e : m1 ρ with
  | ok o ρ1 =>
    cases o with
    | dic ds =>
      cases e2 : q2 ρ1 with
      | none => simp [wM, e2]
      | some o2 =>
        cases e3 : dicK o2 with
        | none => simp [wM, e2, e3]
        | some es => by_cases h : sameI ds es = true <;> simp [wM, e2, e3, h]
    | _ => simp [wM]
  | exc x ρ1 => simp [wM]
  | bad => simp [wM]
end
end FM
namespace FM
open PySem PySem.Spec L2 PyProof.Rows
/-! ### errors: raised, caught and noted, asked for their class -/
section
variable {P : Program} {w : World} {fs ex : List Addr} {H H' : Hp} {h h' : Heap} {a : Addr} {o : HO}
end
section
variable {X : Cx} {x n : Str} {c : Value} {i j : Nat} {body : List Stmt} {b₀ : Stmt} {np pos pos' : Pos} {tb : WX → TS}
end
/-! ### calls within a try's body -/
section
variable {X : Cx} {CX : CXT} {j k : Nat} {f C : Addr} {fd : FuncData} {ps : List Str} {sp : Sp} {dvs : List V} {ds : List Value} {E : XK} {W : WX} {x m : Str} {p pos apos : Pos} {e o : Expr} {es : List Expr} {ta : TE} {t : TA}
end
/-! ### statements whose errors are told with the slots -/
section
variable {k : Kc} {E : XK} {W : WX} {tl : TA} {as : List (Option Nat)} {ma : M (List O)} {n c i : Nat} {f : List O → FR} {nm : Str} {t u : TS} {a b : MS} {A B : List Nat} {tc : TT} {cm : M Bool}
end
theorem St.unset {k : Kc} {P : List (Nat × V)} {e : Ent} {σ : L2.St} {ρ : List O} {vs : List V} {os : List O} {H : Hp} {i : Nat} {v : Option V} (s : St k P e σ ρ vs os H) (hi : Off P [i]) : St k P e (σ.set i v) (ρ.set i .dead) vs os H := by
  obtain ⟨F, S1, S2, env, tmp, fr, pin⟩ := s
  obtain ⟨S', m, q⟩ := Envs.setD (v := v) i env
  exact ⟨F, S', S2, q, tmp, fr.sub (List.Sublist.append m (.refl _)), fun p mp => by
    rw [List.getElem?_set_ne (fun z => hi p mp (by rw [z]; exact List.mem_cons_self))]
    exact pin p mp⟩
/-! ### raise -/
/-- what the text says of an error's class -/
structure ExR (K : Frag) (mg : Str → Option Value) (x : Str) (C : Addr) : Prop where
  q : PySem.W.excIn K C He.veBase "ValueError.__new__" = true
  g : mg x = some (.ref C)
  kp : PySem.W.keepIn K (.ref C) = true
  b : PySem.W.subIn K (.ref C) (.type "BaseException") = some true
  t : PySem.W.typeIn K (.ref C) = some (.type "type")
/-! ### a def that may raise -/
section
variable {P : Program} {w : World} {K : Frag} {mg : Str → Option Value} {base : Heap} {CX : CXT} {x qual : Str} {params : Arguments} {body : List Stmt} {scope : Scope} {dvs : List V} {kws : List (Str × V)} {f : Addr} {fd : FuncData} {N ps : List Str} {io : List Bool} {more k : Nat} {kc : Kc}
end
/-! ### isinstance of a noted error, or of None -/
/-- what is asked of errors: rs may come, ys are asked for; fe: the base of all -/
structure ErrF (k : Kc) (rs ys : List Nat) (fe : Nat) : Prop where
  exC : ∀ r ∈ rs, ExcC k.K (k.cl r)
  exm : ∀ r ∈ rs, PySem.W.exmOne k.K (.ref (k.cl r)) (.ref (k.cl fe)) = some true
  kit : ∀ r ∈ rs, ∀ y ∈ ys, PySem.W.kitOne k.K (.ref (k.cl r)) (.ref (k.cl y)) = some (decide (r = y ∨ y = fe))
  kitV : ∀ r ∈ rs, PySem.W.kitOne k.K (.ref (k.cl r)) (.type "ValueError") = some true
  non : ∀ y ∈ ys, PySem.W.kitOne k.K (.type "NoneType") (.ref (k.cl y)) = some false
  nonV : PySem.W.kitOne k.K (.type "NoneType") (.type "ValueError") = some false
section
variable {k : Kc} {te : TE} {qa : QE} {rs ys : List Nat} {fe : Nat} {zs : List (Option Nat)}
end
end FM
namespace FM
open PySem PySem.Spec L2 PyProof.Rows
/-! ### how many truths of a list are so -/
section
variable {k : Kc} {E : XK} {ta tb : TE} {qa qb : QE}
end
/-! ### an entry's list, indexed by what has effects elsewhere -/
section
variable {k : Kc} {E : XK}
end
end FM
namespace FM
open PySem PySem.Spec L2 PyProof.Rows
/-! ### the logic of what is raised -/
section
variable {more : Nat} {io : List Bool} {a b mb : MS} {os ρ : List O} {x : Ex} {Q : List O → Prop} {Q2 : O → List O → Prop} {m : M O} {t : List O → Option Bool} {nx bk ct : List O → Prop} {rt : O → List O → Prop}
@[simp] theorem wF_defM : wF (defM more io a os) Q2 = wS (a (os ++ deadN more)) (fun ρ => Q2 (.fz .none) (outsE io ρ)) (fun o ρ => Q2 o (outsE io ρ)) (fun _ => False) (fun _ => False) := by
  unfold defM
  cases e : a (os ++ deadN more) <;> rfl
@[simp] theorem toPD_exo {c : Nat} : toPD (.exo c) = none := rfl
end
end FM
namespace FM
open PySem PySem.Spec L2 PyProof.Rows
/-! ### functions as values -/
section
variable {k : Kc} {E : XK} {W : WX}
/-! ### for f in (f1, f2) -/
end
end FM
namespace FM
open PySem PySem.Spec L2 PyProof.Rows
/-! ### a text twice -/
end FM
namespace FM
open PySem PySem.Spec L2 PyProof.Rows
/-! ### for x in reversed(list) -/
end FM
namespace FM
open PySem PySem.Spec L2 PyProof.Rows
/-! ### dict(enumerate(xs)), of a list or a tuple -/
section
variable {prog : Program} {w : World} {A : Around} {E : Value → Shared → Prop} {s : Shared}
end
theorem AtB.get {b : Bool} {h : Heap} {a : Addr} {items : Array Value} (x : AtB b h a items) : ∃ o, h.get? a = some o := by
  cases b with
  | true => obtain ⟨o, e, _⟩ := x; exact ⟨o, e⟩
  | false => obtain ⟨o, e, _⟩ := x; exact ⟨o, e⟩
end FM
namespace FM
open PySem PySem.Spec L2 PyProof.Rows
/-! ### an entry of one's own record that stays where it is while a def changes the record -/
section
variable {k : Kc} {E : XK} {i : Nat} {z y : Str} {a b c : Addr} {H H' : Hp} {A B : List Nat} {t u : TS} {m n : MS} {te ti : TE} {q qi : QE}
def PinE (a : Addr) (z : Str) (b : Addr) (H : Hp) : Prop := ∃ es, H a = some (.dK es) ∧ valV es (.inr z) = some (.ref b)
theorem PinE.same (p : PinE a z b H) (s : Same H H') : PinE a z b H' := let ⟨es, h1, h2⟩ := p; ⟨es, s a _ h1, h2⟩
theorem PinE.upd {o : HO} (p : PinE a z b H) (h : c ≠ a) : PinE a z b (L2.upd H c o) := by
  obtain ⟨es, h1, h2⟩ := p
  exact ⟨es, by rw [upd_ne (Ne.symm h)]; exact h1, h2⟩
theorem valV_put_ne {x x' : Key} {v : V} (h : x ≠ x') : ∀ {kvs : List (Key × V)}, valV (putK kvs x v) x' = valV kvs x' := by
  intro kvs
  unfold putK
  split
  · rename_i hh
    clear hh
    induction kvs with
    | nil => rfl
    | cons p r ih =>
      unfold valV at ih ⊢
      rw [List.map_cons, List.find?_cons, List.find?_cons]
      by_cases c : p.1 = x
      · have d : ¬ p.1 = x' := fun w => h (c.symm.trans w)
        simp only [c, if_true]
        rw [decide_eq_false h]
        simpa using ih
      · simp only [c, if_false]
        by_cases d : p.1 = x'
        · simp [d]
        · rw [decide_eq_false d]
          simpa using ih
  · unfold valV
    rw [List.find?_append]
    have : List.find? (fun kv : Key × V => decide (kv.1 = x')) [(x, v)] = none := by simp [h]
    rw [this, Option.or_none]
theorem PinE.put {es : List (Key × V)} {v : V} (p : PinE a z b H) (h : H a = some (.dK es)) (ne : y ≠ z) : PinE a z b (L2.upd H a (.dK (putK es (.inr y) v))) := by
  obtain ⟨es', h1, h2⟩ := p
  rw [h] at h1
  cases h1
  exact ⟨_, upd_same, by rw [valV_put_ne (fun w => ne (Sum.inr.inj w))]; exact h2⟩
end
section
variable {P : Program} {w : World} {K : Frag} {mg : Str → Option Value} {base : Heap} {CX : CXT} {x qual z : Str} {params : Arguments} {body : List Stmt} {scope : Scope} {dvs : List V} {kws : List (Str × V)} {f : Addr} {fd : FuncData} {N ps : List Str} {io : List Bool} {more k i : Nat} {kc : Kc}
end
section
variable {k : Kc} {E : XK} {i : Nat} {z : Str} {ta : TE} {qa : QE} {f : List O → FR}
end
end FM
namespace FM
open PySem PySem.Spec L2 PyProof.Rows
/-! ### m.get(k), m what a call tells, frozen -/
section
variable {k : Kc} {E : XK} {te ty : TE} {m : M O} {qb : QE}
def mGet1 (m : M O) (qb : QE) : M O := fun ρ => match m ρ with
  | .ok (.fz d) ρ1 => match qb ρ1 with
    | some y => match oGet1 (.fz d) y with
      | some (.fz r) => .ok (.fz r) ρ1
      | _ => .bad
    | none => .bad
  | .ok _ _ => .bad
  | .exc x ρ1 => .exc x ρ1
  | .bad => .bad
theorem tem_get1 (h : TEm k E te m) (hb : TEv k ty qb) : TEm k E (tDGet1 te ty) (mGet1 m qb) := by
  intro P e σ ρ vs os H Q s g
  refine h P e σ ρ vs os H _ s ?_
  unfold mGet1 at g
  cases e1 : m ρ with
  | exc x ρ1 => rw [e1] at g; exact g
  | bad => rw [e1] at g; exact g
  | ok z ρ1 =>
    rw [e1] at g
    intro v H1 s1
    cases z with
    | fz d =>
      simp only at g
      obtain ⟨F, S1, S2, s1⟩ := s1
      obtain ⟨r1, s2⟩ := s1.top
      split at g
      · rename_i y e2
        split at g
        · rename_i r er
          unfold oGet1 at er
          obtain ⟨r', e3, e4⟩ := Option.map_eq_some_iff.mp er
          have w1 : Vw k F H1 S1 v (.fz d) := ⟨[], (fun a m => by cases m), .fz r1⟩
          have isd : ∃ a, v = .ref a ∧ IsD H1 a := by
            unfold oLook at e3
            split at e3
            · rename_i ds kk e5 e6
              obtain ⟨a, vs, rfl, h1, h2⟩ := w1.dicK s2.fr.fle e5
              exact ⟨a, rfl, .inl ⟨_, h1⟩⟩
            · split at e3
              · rename_i ds kk e5 e6
                obtain ⟨a, vs, rfl, h1, h2⟩ := w1.dicT s2.fr.fle e5
                exact ⟨a, rfl, .inr ⟨_, h1⟩⟩
              · cases e3
          obtain ⟨a, rfl, isd⟩ := isd
          refine ⟨a, rfl, isd, hb F H1 σ ρ1 S1 _ _ s2.qs e2 fun w F2 H2 x2 w2 => ?_⟩
          have s3 := s2.xt x2
          obtain ⟨a', z, ea, gg, r2⟩ := look_ok (w1.xt x2) w2 x2.fle e3
          cases ea
          refine ⟨z, gg, ?_⟩
          have fin : ∀ v', Rep k.K F2 v' r → Q v' H2 := fun v' rv => g v' H2 ⟨F2, S1, [] ++ S2, s3.env, .cons (.fz rv) s3.tmp, s3.fr, s3.pin⟩
          rcases r2 with ⟨q2, q3⟩ | ⟨d', v', q2, q3, q4⟩
          · subst q2 q3
            cases e4
            exact fin _ .non
          · subst q2 q3
            cases e4
            exact fin _ q4
        · exact g.elim
      · exact g.elim
    | _ => exact g.elim
end
end FM
namespace FM
open PySem PySem.Spec L2 PyProof.Rows
/-! ### for t in a told dict -/
section
variable {k : Kc} {E : XK}
/-- a dict's keys, as long as it stands so -/
theorem walkD_K {F : Hp} {v : V} {ps : List (PD × PD)} {d : Addr} {u : HO} {od : Obj} (r : Rep k.K F v (.dict ps)) (ev : v = .ref d) (hu : DkT u) (hr : Rd F d u) : (∃ ws, u = .dK ws ∧ WalkD k (fun F2 H2 => Same F F2 ∧ H2 d = some (.frz od u)) (Itk d od ws) (keysP ps)) ∨ ∃ ws, u = .dT ws ∧ WalkD k (fun F2 H2 => Same F F2 ∧ H2 d = some (.frz od u)) (Itkt d od ws) (keysP ps) := by
  have one : ∀ {w w' : HO}, Rd F d w → Rd F d w' → (∀ o' v', w ≠ .frz o' v') → (∀ o' v', w' ≠ .frz o' v') → w = w' := fun {w w'} h1 h2 n1 n2 => by
    rcases h1 with h1 | ⟨o1, h1⟩ <;> rcases h2 with h2 | ⟨o2, h2⟩ <;> rw [h1] at h2 <;> cases h2
    · rfl
    · exact (n1 _ _ rfl).elim
    · exact (n2 _ _ rfl).elim
    · rfl
  have nu : ∀ o' v', u ≠ .frz o' v' := fun o' v' z => by rcases hu with ⟨ws, rfl⟩ | ⟨ws, rfl⟩ <;> cases z
  generalize hpd : PyData.dict ps = pd at r
  cases r with
  | @dic a ws ds _ h rr ep =>
    cases ev
    have ep' := hpd.trans ep
    injection ep' with ep'
    subst ep'
    have eu : u = .dK ws := one hr h nu (fun _ _ z => by cases z)
    subst eu
    left
    refine ⟨ws, rfl, ?_⟩
    rw [keysP_kp]
    have hl : (keysD ds).length = ws.length := by rw [rr.len', keysD, List.length_map]
    refine ⟨fun j F2 H2 hj p f => ?_, fun F2 H2 p f => ?_, fun j F2 H2 x H3 hj p f y => ?_⟩
    · exact walk_keys.goes j H2 (by omega) p.2
    · rw [hl]
      exact walk_keys.stops H2 p.2
    · obtain ⟨rfl, kk, vv, e1, rfl⟩ := walk_keys.yields j H2 x H3 (by omega) p.2 y
      have e2 := rr.key e1
      rw [List.getElem?_eq_getElem hj] at e2
      rw [Option.some.inj e2]
      exact ⟨F2, Xt.refl f, rep_key kk⟩
  | @dit a ws ds _ h rr ep =>
    cases ev
    have ep' := hpd.trans ep
    injection ep' with ep'
    subst ep'
    have eu : u = .dT ws := one hr h nu (fun _ _ z => by cases z)
    subst eu
    right
    refine ⟨ws, rfl, ?_⟩
    rw [keysP_tp]
    have hl : (keysT ds).length = ws.length := by rw [rr.len', keysT, List.length_map]
    refine ⟨fun j F2 H2 hj p f => ?_, fun F2 H2 p f => ?_, fun j F2 H2 x H3 hj p f y => ?_⟩
    · exact walk_keysT.goes j H2 (by omega) p.2
    · rw [hl]
      exact walk_keysT.stops H2 p.2
    · obtain ⟨rfl, kk, vv, z, e1, rfl, hz⟩ := walk_keysT.yields j H2 x H3 (by omega) p.2 y
      have e2 := rr.key e1
      rw [List.getElem?_eq_getElem hj] at e2
      rw [Option.some.inj e2]
      refine ⟨adp F2 H3 [z], adp_xt f (fun a m => by rw [List.mem_singleton.mp m]; exact ⟨_, ⟨kk, rfl⟩, hz⟩), .tup (.inl ?_) (reps_keys kk)⟩
      unfold adp
      rw [if_pos List.mem_cons_self]
      exact hz
  | _ => cases hpd
def tOrS (a b : TS) : TS := fun D σ H => a D σ H ∨ b D σ H
theorem ps_orS {X : Cx} {st : Stmt} {a b : TS} (ha : PS X st a) (hb : PS X st b) : PS X st (tOrS a b) :=
  ⟨fun pins s σ H D I h => h.elim (ha.run pins s σ H D I) (hb.run pins s σ H D I)⟩
end
end FM
namespace FM
open PySem PySem.Spec L2 PyProof.Rows
/-! ### statements that are quiet, done with all slots frozen -/
section
variable {k : Kc} {E : XK}
def TSq (k : Kc) (J : List Nat) (t : TS) (m : MS) : Prop := ∀ (F H : Hp) (σ : L2.St) (ρ : List O) (S : List Addr) (D : Ends), Qs k F H σ ρ S →
  (match m ρ with
    | .next ρ' => ∀ σ' F' H' S', Agr J σ σ' → Xt F H F' H' → Qs k F' H' σ' ρ' S' → D.nx σ' H'
    | .ret (.fz d) _ => ∀ v F' H', Xt F H F' H' → Rep k.K F' v d → D.rt v H'
    | _ => False) → t D σ H
theorem tsq_next : TSq k [] tNext sNext := fun F H σ ρ S D q g => g σ F H S Agr.refl (Xt.refl q.fle) q
theorem tsq_seq {A B : List Nat} {t u : TS} {a b : MS} (h1 : TSq k A t a) (h2 : TSq k B u b) : TSq k (A ++ B) (tSeq t u) (sSeq a b) := by
  intro F H σ ρ S D q g
  refine h1 F H σ ρ S _ q ?_
  unfold sSeq at g
  cases e1 : a ρ with
  | next ρ1 =>
    rw [e1] at g
    simp only at g ⊢
    intro σ1 F1 H1 S1 g1 x1 q1
    refine h2 F1 H1 σ1 ρ1 S1 D q1 ?_
    cases e2 : b ρ1 with
    | next ρ2 => rw [e2] at g; exact fun σ2 F2 H2 S2 g2 x2 q2 => g σ2 F2 H2 S2 (g1.trans g2) (x1.trans x2) q2
    | ret o ρ2 =>
      rw [e2] at g
      cases o with
      | fz d => exact fun v F2 H2 x2 r => g v F2 H2 (x1.trans x2) r
      | _ => exact g.elim
    | _ => rw [e2] at g; exact g.elim
  | ret o ρ1 =>
    rw [e1] at g
    cases o with
    | fz d => exact g
    | _ => exact g.elim
  | _ => rw [e1] at g; exact g.elim
theorem tsq_if {A B : List Nat} {tc : TT} {c : List O → Option Bool} {t u : TS} {a b : MS} (hc : TTv k tc c) (h1 : TSq k A t a) (h2 : TSq k B u b) : TSq k (A ++ B) (tIfS tc t u) (sIf (bLift c) a b) := by
  intro F H σ ρ S D q g
  unfold sIf bLift at g
  cases e1 : c ρ with
  | none => rw [e1] at g; exact g.elim
  | some x =>
    rw [e1] at g
    refine hc F H σ ρ S x _ q e1 fun F1 H1 x1 => ?_
    have q1 := q.xt x1
    cases x with
    | true =>
      rw [if_pos rfl]
      refine h1 F1 H1 σ ρ S D q1 ?_
      simp only at g
      cases e2 : a ρ with
      | next ρ2 => rw [e2] at g; exact fun σ2 F2 H2 S2 g2 x2 q2 => g σ2 F2 H2 S2 ⟨g2.len, fun i n => g2.at_ i fun m => n (List.mem_append_left _ m)⟩ (x1.trans x2) q2
      | ret o ρ2 =>
        rw [e2] at g
        cases o with
        | fz d => exact fun v F2 H2 x2 r => g v F2 H2 (x1.trans x2) r
        | _ => exact g.elim
      | _ => rw [e2] at g; exact g.elim
    | false =>
      rw [if_neg (by decide)]
      refine h2 F1 H1 σ ρ S D q1 ?_
      simp only at g
      cases e2 : b ρ with
      | next ρ2 => rw [e2] at g; exact fun σ2 F2 H2 S2 g2 x2 q2 => g σ2 F2 H2 S2 ⟨g2.len, fun i n => g2.at_ i fun m => n (List.mem_append_right _ m)⟩ (x1.trans x2) q2
      | ret o ρ2 =>
        rw [e2] at g
        cases o with
        | fz d => exact fun v F2 H2 x2 r => g v F2 H2 (x1.trans x2) r
        | _ => exact g.elim
      | _ => rw [e2] at g; exact g.elim
theorem tsq_ret {te : TE} {q : QE} (h : TEv k te q) : TSq k [] (tRet te) (sRet (mLift q)) := by
  intro F H σ ρ S D qs g
  unfold sRet mLift at g
  cases e1 : q ρ with
  | none => rw [e1] at g; exact g.elim
  | some o =>
    rw [e1] at g
    cases o with
    | fz d => exact h F H σ ρ S _ _ qs e1 fun v F1 H1 x1 w1 => g v F1 H1 x1 w1.rep
    | _ => exact g.elim
theorem tsq_asg {g : TG} {f : QG} {J : List Nat} {te : TE} {q : QE} (hg : TGq k g f J) (h : TEv k te q) : TSq k J (tAsg te g) (sAsg f (mLift q)) := by
  intro F H σ ρ S D qs gg
  unfold sAsg mLift at gg
  cases e1 : q ρ with
  | none => rw [e1] at gg; exact gg.elim
  | some o =>
    rw [e1] at gg
    cases o with
    | fz d =>
      refine h F H σ ρ S _ _ qs e1 fun v F1 H1 x1 w1 => ?_
      simp only at gg
      cases e2 : f d ρ with
      | none => rw [e2] at gg; exact gg.elim
      | some ρ2 =>
        rw [e2] at gg
        exact hg F1 H1 σ ρ ρ2 S v d _ (qs.xt x1) w1.rep e2 fun σ' S' q' _ a => gg σ' F1 H1 S' a x1 q'
    | _ => exact gg.elim
end
/-! ### x.split(y) -/
section
variable {k : Kc} {E : XK}
end
end FM
namespace FM
open PySem PySem.Spec L2 PyProof.Rows
/-! ### walks among statements that are quiet; a quiet statement within a def that has effects -/
section
variable {k : Kc} {E : XK}
/-- what a quiet statement's end promises -/
def PQ (k : Kc) (J : List Nat) (F H : Hp) (σ : L2.St) (D : Ends) : RS → Prop
  | .next ρ' => ∀ σ' F' H' S', Agr J σ σ' → Xt F H F' H' → Qs k F' H' σ' ρ' S' → D.nx σ' H'
  | .ret (.fz d) _ => ∀ v F' H', Xt F H F' H' → Rep k.K F' v d → D.rt v H'
  | _ => False
theorem TSq.run {J : List Nat} {t : TS} {m : MS} {F H : Hp} {σ : L2.St} {ρ : List O} {S : List Addr} {D : Ends} (h : TSq k J t m) (q : Qs k F H σ ρ S) (g : PQ k J F H σ D (m ρ)) : t D σ H := by
  refine h F H σ ρ S D q ?_
  cases e : m ρ with
  | next ρ' => rw [e] at g; exact g
  | ret o ρ' =>
    rw [e] at g
    cases o with
    | fz d => exact g
    | _ => exact g.elim
  | _ => rw [e] at g; exact g.elim
theorem tsq_of {J : List Nat} {t : TS} {m : MS} (h : ∀ (F H : Hp) (σ : L2.St) (ρ : List O) (S : List Addr) (D : Ends), Qs k F H σ ρ S → PQ k J F H σ D (m ρ) → t D σ H) : TSq k J t m := by
  intro F H σ ρ S D q g
  refine h F H σ ρ S D q ?_
  cases e : m ρ with
  | next ρ' => rw [e] at g; exact g
  | ret o ρ' =>
    rw [e] at g
    cases o with
    | fz d => exact g
    | _ => exact g.elim
  | _ => rw [e] at g; exact g.elim
def noC : RS → RS
  | .next ρ => .next ρ
  | .ret o ρ => .ret o ρ
  | _ => .bad
def fNoC (m : MS) : MS := fun ρ => noC (m ρ)
theorem tsq_noC {J : List Nat} {t : TS} {m : MS} (h : TSq k J t m) : TSq k J t (fNoC m) := tsq_of fun F H σ ρ S D q g => h.run q (by
  unfold fNoC at g
  cases e : m ρ with
  | next ρ' => rw [e] at g; exact g
  | ret o ρ' => rw [e] at g; exact g
  | _ => rw [e] at g; exact g.elim)
theorem loopQ {g : TG} {f : QG} {J A : List Nat} {tb : TS} {body : MS} {F H F1 H1 : Hp} {S : List Addr} {σ0 σ : L2.St} {ρ : List O} {D : Ends} {ds : List PD} {I : It} {Pw : Hp → Hp → Prop}
    (W : WalkD k Pw I ds) (hP : ∀ F2 H2, Xt F1 H1 F2 H2 → Pw F2 H2) (x1 : Xt F H F1 H1) (a1 : Agr (J ++ A) σ0 σ) (hg : TGq k g f J) (hb : TSq k A tb body) (q : Qs k F1 H1 σ ρ S) (gg : PQ k (J ++ A) F H σ0 D (forGo f (fNoC body) ds ρ)) :
    ∃ W : Nat → Nat → L2.St → Hp → Prop, (∃ m, W 0 m σ H1) ∧ ∀ i m σ H, W i m σ H →
      (I.stop i H ∧ D.nx σ H) ∨ (I.go i H ∧ ∃ N : L2.St → Hp → Prop, (∀ σ' H', N σ' H' → ∃ m', m' < m ∧ W (i + 1) m' σ' H') ∧ ∀ x H', I.yld i H x H' → g x σ H' fun σ2 H2 => tb { D with nx := N, ct := N, bk := D.nx } σ2 H2) := by
  have ag : ∀ {B : List Nat} {σ1 σ2 : L2.St}, Agr (J ++ A) σ0 σ1 → Agr B σ1 σ2 → (∀ i ∈ B, i ∈ J ++ A) → Agr (J ++ A) σ0 σ2 := fun a b m => ⟨b.len.trans a.len, fun i n => (b.at_ i fun z => n (m i z)).trans (a.at_ i n)⟩
  refine ⟨fun i n σ' H' => n = ds.length - i ∧ i ≤ ds.length ∧ ∃ ρi Fi Si, Qs k Fi H' σ' ρi Si ∧ Xt F1 H1 Fi H' ∧ Agr (J ++ A) σ0 σ' ∧ PQ k (J ++ A) F H σ0 D (forGo f (fNoC body) (ds.drop i) ρi), ⟨_, rfl, Nat.zero_le _, ρ, F1, S, q, Xt.refl q.fle, a1, by simpa using gg⟩, ?_⟩
  rintro i n σ2 H2 ⟨rfl, hi2, ρi, Fi, Si, q2, x2, a2, g2⟩
  by_cases hlt : i < ds.length
  · refine .inr ⟨W.goes i Fi H2 hlt (hP _ _ x2) q2.fle, fun σ' H' => i + 1 ≤ ds.length ∧ ∃ ρi Fi Si, Qs k Fi H' σ' ρi Si ∧ Xt F1 H1 Fi H' ∧ Agr (J ++ A) σ0 σ' ∧ PQ k (J ++ A) F H σ0 D (forGo f (fNoC body) (ds.drop (i + 1)) ρi), fun σ' H' z => ⟨_, ?_, rfl, z.1, z.2⟩, fun x H3 y => ?_⟩
    · omega
    · obtain ⟨F3, x3, rx⟩ := W.yields i Fi H2 x H3 hlt (hP _ _ x2) q2.fle y
      rw [List.drop_eq_getElem_cons hlt] at g2
      unfold forGo at g2
      cases e6 : f ds[i] ρi with
      | none => rw [e6] at g2; exact g2.elim
      | some ρ4 =>
        simp only [e6] at g2
        have q3 := q2.xt x3
        refine hg F3 H3 σ2 ρi ρ4 Si x ds[i] _ q3 rx e6 fun σ4 S4 q4 _ a4 => ?_
        have a24 := ag a2 a4 fun i m => List.mem_append_left _ m
        refine (tsq_noC hb).run q4 ?_
        cases e7 : fNoC body ρ4 with
        | next ρ5 =>
          simp only [e7] at g2
          exact fun σ5 F5 H5 S5 a5 x5 q5 => ⟨hlt, ρ5, F5, S5, q5, (x2.trans x3).trans x5, ag a24 a5 fun i m => List.mem_append_right _ m, g2⟩
        | ret o5 ρ5 =>
          simp only [e7] at g2
          cases o5 with
          | fz d => exact fun v F5 H5 x5 r => g2 v F5 H5 (x1.trans ((x2.trans x3).trans x5)) r
          | _ => exact g2.elim
        | cont ρ5 => unfold fNoC noC at e7; split at e7 <;> cases e7
        | brk ρ5 => unfold fNoC noC at e7; split at e7 <;> cases e7
        | exc x5 ρ5 => unfold fNoC noC at e7; split at e7 <;> cases e7
        | bad => simp only [e7] at g2; exact g2.elim
  · have ei : i = ds.length := by omega
    subst ei
    refine .inl ⟨W.stops Fi H2 (hP _ _ x2) q2.fle, ?_⟩
    rw [List.drop_length] at g2
    exact g2 σ2 Fi H2 Si a2 (x1.trans x2) q2
def sForQ (q : QI) (f : QG) (body : MS) : MS := fun ρ => match q ρ with
  | some ds => forGo f (fNoC body) ds ρ
  | none => .bad
theorem tsq_for {wi : TI} {g : TG} {tb : TS} {q : QI} {f : QG} {body : MS} {J A : List Nat} (hi : TIv k wi q) (hg : TGq k g f J) (hb : TSq k A tb body) : TSq k (J ++ A) (tFor wi g tb) (sForQ q f body) := tsq_of fun F H σ ρ S D qs gg => by
  unfold sForQ at gg
  cases e1 : q ρ with
  | none => rw [e1] at gg; exact gg.elim
  | some ds =>
    rw [e1] at gg
    refine hi F H σ ρ S ds _ qs e1 fun I F1 H1 x1 W => ?_
    exact loopQ W (fun _ _ z => z) x1 Agr.refl hg hb (qs.xt x1) gg
def sForKQ (q : QE) (f : QG) (body : MS) : MS := fun ρ => match q ρ with
  | some (.fz (.dict ps)) => forGo f (fNoC body) (keysP ps) ρ
  | _ => .bad
theorem xt_unlock {F H F5 H5 : Hp} {d : Addr} {u : HO} {od : Obj} (hF : F d = some u) (hd : H d = some u) (x : Xt F (upd H d (.frz od u)) F5 H5) : Xt F H F5 (upd H5 d u) ∧ H5 d = some (.frz od u) := by
  have h5 : H5 d = some (.frz od u) := x.ex d _ upd_same
  have f5 : F5 d = some u := x.sub d u hF
  refine ⟨⟨fun a w z => ?_, x.sub, fun a w z => ?_, fun a w z => ?_⟩, h5⟩
  · by_cases ne : a = d
    · subst ne
      rw [hd] at z
      rw [upd_same]
      exact z
    · rw [upd_ne ne]
      exact x.ex a w (by rw [upd_ne ne]; exact z)
  · by_cases ne : a = d
    · subst ne
      rw [f5] at z
      cases z
      exact .inl upd_same
    · rw [upd_ne ne]
      exact x.fle a w z
  · rcases x.fresh a w z with z2 | z2 | ⟨g, z2⟩
    · exact .inl z2
    · have ne : a ≠ d := fun y => by rw [y, upd_same] at z2; cases z2
      rw [upd_ne ne] at z2
      exact .inr (.inl z2)
    · by_cases ne : a = d
      · subst ne
        rw [f5] at z
        cases z
        exact .inl hF
      · rw [upd_ne ne] at z2
        exact .inr (.inr ⟨g, z2⟩)
theorem qs_unlock {F H F5 H5 : Hp} {d : Addr} {u : HO} {od : Obj} {σ : L2.St} {ρ : List O} {S : List Addr} (hF : F d = some u) (hd : H d = some u) (x : Xt F (upd H d (.frz od u)) F5 H5) (q : Qs k F5 H5 σ ρ S) : Qs k F5 (upd H5 d u) σ ρ S := by
  have f5 : F5 d = some u := x.sub d u hF
  refine ⟨(xt_unlock hF hd x).1.fle, q.env.mono (Same.refl F5) fun a m w z => ?_, q.off⟩
  have ne : a ≠ d := fun y => by
    have := q.off a m
    rw [y, f5] at this
    cases this
  rw [upd_ne ne]
  exact z
theorem tsq_forK {te : TE} {rd : L2.St → Hp → Option V} {q : QE} {g : TG} {f : QG} {J : List Nat} {tb : TS} {body : MS} {A : List Nat} (t : TRd k te rd q) (hg : TGq k g f J) (hb : TSq k A tb body) :
    TSq k (J ++ A) (tOrS (tFor (iKeys te) g tb) (tLock (tFor (iKeys te) g tb))) (sForKQ q f body) := tsq_of fun F H σ ρ S D qs gg => by
  unfold sForKQ at gg
  split at gg
  · rename_i ps e0
    obtain ⟨v, b1, b2, b3⟩ := t.get F H σ ρ S _ qs e0
    have r := b2.rep
    have key : ∃ d u, v = .ref d ∧ DkT u ∧ Rd F d u := by
      generalize hpd : PyData.dict ps = pd at r
      cases r with
      | @dic a ws ds _ h rr ep => exact ⟨a, _, rfl, .inl ⟨ws, rfl⟩, h⟩
      | @dit a ws ds _ h rr ep => exact ⟨a, _, rfl, .inr ⟨ws, rfl⟩, h⟩
      | _ => cases hpd
    obtain ⟨d, u, rfl, hu, hr⟩ := key
    have free : ∀ ob, H d = some (.frz ob u) → tFor (iKeys te) g tb D σ H := fun ob hH => by
      refine b3 _ ⟨d, ob, rfl, ?_⟩
      rcases walkD_K (k := k) (od := ob) r rfl hu hr with ⟨ws, rfl, W⟩ | ⟨ws, rfl, W⟩
      · exact .inl ⟨ws, hH, loopQ W (fun F2 H2 x => ⟨x.sub, x.ex d _ hH⟩) (Xt.refl qs.fle) Agr.refl hg hb qs gg⟩
      · exact .inr ⟨ws, hH, loopQ W (fun F2 H2 x => ⟨x.sub, x.ex d _ hH⟩) (Xt.refl qs.fle) Agr.refl hg hb qs gg⟩
    rcases hr with hF | ⟨ob, hF⟩
    · rcases qs.fle d u hF with hd | ⟨_, ob, hH⟩
      · refine .inr ⟨d, u, hd, hu.mut, fun od => ?_⟩
        have nd : ∀ a ∈ S, a ≠ d := fun a m y => by
          have := qs.off a m
          rw [y, hF] at this
          cases this
        have qs' : Qs k F (upd H d (.frz od u)) σ ρ S := ⟨fun a w z => by
          by_cases ne : a = d
          · subst ne
            rw [hF] at z
            cases z
            exact .inr ⟨hu.mut, od, upd_same⟩
          · rw [upd_ne ne]
            exact qs.fle a w z, qs.env.mono (Same.refl F) (fun a m w z => by rw [upd_ne (nd a m)]; exact z), qs.off⟩
        obtain ⟨v', c1, c2, c3⟩ := t.get F (upd H d (.frz od u)) σ ρ S _ qs' e0
        rw [t.lock σ H d u od hu hd, b1] at c1
        cases c1
        generalize hD : (⟨fun σ' H' => H' d = some (.frz od u) ∧ D.nx σ' (upd H' d u), fun v H' => H' d = some (.frz od u) ∧ D.rt v (upd H' d u), fun σ' H' => H' d = some (.frz od u) ∧ D.bk σ' (upd H' d u), fun σ' H' => H' d = some (.frz od u) ∧ D.ct σ' (upd H' d u)⟩ : Ends) = D'
        have gg' : PQ k (J ++ A) F (upd H d (.frz od u)) σ D' (forGo f (fNoC body) (keysP ps) ρ) := by
          subst hD
          cases z : forGo f (fNoC body) (keysP ps) ρ with
          | next ρ5 => rw [z] at gg; exact fun σ5 F5 H5 S5 a5 x5 q5 => ⟨(xt_unlock hF hd x5).2, gg σ5 F5 _ S5 a5 (xt_unlock hF hd x5).1 (qs_unlock hF hd x5 q5)⟩
          | ret o5 ρ5 =>
            rw [z] at gg
            cases o5 with
            | fz d5 => exact fun v5 F5 H5 x5 r5 => ⟨(xt_unlock hF hd x5).2, gg v5 F5 _ (xt_unlock hF hd x5).1 r5⟩
            | _ => exact gg.elim
          | _ => rw [z] at gg; exact gg.elim
        refine c3 _ ⟨d, od, rfl, ?_⟩
        rcases walkD_K (k := k) (od := od) r rfl hu (.inl hF) with ⟨ws, rfl, W⟩ | ⟨ws, rfl, W⟩
        · exact .inl ⟨ws, upd_same, loopQ W (fun F2 H2 x => ⟨x.sub, x.ex d _ upd_same⟩) (Xt.refl qs'.fle) Agr.refl hg hb qs' gg'⟩
        · exact .inr ⟨ws, upd_same, loopQ W (fun F2 H2 x => ⟨x.sub, x.ex d _ upd_same⟩) (Xt.refl qs'.fle) Agr.refl hg hb qs' gg'⟩
      · exact .inl (free ob hH)
    · rcases qs.fle d _ hF with hH | ⟨m, _⟩
      · exact .inl (free ob hH)
      · exact m.elim
  · exact gg.elim
/-- slots of J as behind, others as ahead; those of J hold plain things -/
def mixJ (J : List Nat) : Nat → List O → List O → List O
  | n, o :: ρ, o' :: ρ' => (if n ∈ J then o' else o) :: mixJ J (n + 1) ρ ρ'
  | _, _, _ => []
def frOk : O → Bool
  | .dead => true
  | .fz _ => true
  | _ => false
def imOk : O → Bool
  | .dead => true
  | .fz d => imm d
  | _ => false
def mixOk (J : List Nat) : Nat → List O → List O → Bool
  | n, o :: ρ, o' :: ρ' => (if n ∈ J then frOk o && imOk o' else true) && mixOk J (n + 1) ρ ρ'
  | _, [], [] => true
  | _, _, _ => false
theorem envs_mix {F' G H' : Hp} {J : List Nat} (rt : ∀ a vs, RdT F' a vs → RefT F' vs → RdT G a vs) : ∀ {ρ ρ' : List O} {n : Nat} {σ σ' : L2.St} {S S' : List Addr}, Envs k G H' σ ρ S → Envs k F' H' σ' ρ' S' → (∀ i, n + i ∉ J → σ'[i]? = σ[i]?) → mixOk J n ρ ρ' = true → Envs k G H' σ' (mixJ J n ρ ρ') S
  | [], [], n, _, _, _, _, e, e', _, _ => by
    cases e
    cases e'
    exact .nil
  | [], _ :: _, n, _, _, _, _, _, _, _, h => by simp [mixOk] at h
  | _ :: _, [], n, _, _, _, _, _, _, _, h => by simp [mixOk] at h
  | o :: ρ, o' :: ρ', n, σ, σ', S, S', e, e', ag, h => by
    have h' : (if n ∈ J then frOk o && imOk o' else true) = true ∧ mixOk J (n + 1) ρ ρ' = true := by simpa only [mixOk, Bool.and_eq_true] using h
    obtain ⟨h1, h2⟩ := h'
    have ag' : ∀ {x x' : Option V} {τ τ' : L2.St}, (∀ i, n + i ∉ J → (x' :: τ')[i]? = (x :: τ)[i]?) → ∀ i, n + 1 + i ∉ J → τ'[i]? = τ[i]? := fun ag i hi => by
      have := ag (i + 1) (by rw [← Nat.add_assoc, Nat.add_right_comm]; exact hi)
      simpa using this
    show Envs k G H' σ' ((if n ∈ J then o' else o) :: mixJ J (n + 1) ρ ρ') S
    by_cases hn : n ∈ J
    · rw [if_pos hn] at h1 ⊢
      obtain ⟨h3, h4⟩ := Bool.and_eq_true_iff.mp h1
      have tail : ∃ T x σ1, σ = x :: σ1 ∧ S = T ∧ Envs k G H' σ1 ρ T := by
        cases e with
        | dead r => exact ⟨_, _, _, rfl, rfl, r⟩
        | @cons v o σ1 ρ S1 T1 w r =>
          cases w with
          | fz w => exact ⟨_, _, _, rfl, rfl, r⟩
          | dead => exact ⟨_, _, _, rfl, rfl, r⟩
          | _ => simp [frOk] at h3
      obtain ⟨T, x, σ1, rfl, rfl, r⟩ := tail
      cases e' with
      | dead r' => exact .dead (envs_mix rt r r' (ag' ag) h2)
      | @cons v o σ1' ρ1 S1 T1 w r' =>
        cases w with
        | fz w => exact .cons (S := []) (.fz (Rep.immH rt w (by simpa [imOk] using h4))) (envs_mix rt r r' (ag' ag) h2)
        | dead => exact .dead (envs_mix rt r r' (ag' ag) h2)
        | _ => simp [imOk] at h4
    · rw [if_neg hn]
      have hd : σ'.head? = σ.head? := by
        have := ag 0 hn
        cases σ <;> cases σ' <;> simpa using this
      have tl' : ∃ x' σ1' S1', σ' = x' :: σ1' ∧ Envs k F' H' σ1' ρ' S1' := by
        cases e' with
        | dead r' => exact ⟨_, _, _, rfl, r'⟩
        | cons w r' => exact ⟨_, _, _, rfl, r'⟩
      obtain ⟨x', σ1', S1', rfl, r'⟩ := tl'
      cases e with
      | dead r => exact .dead (envs_mix rt r r' (ag' ag) h2)
      | @cons v o σ1 ρ S1 T1 w r =>
        simp at hd
        subst hd
        exact .cons w (envs_mix rt r r' (ag' ag) h2)
/-- some slots frozen for a statement's time -/
def frzJ (js : List Nat) : Nat → List O → List O
  | n, o :: ρ => (if n ∈ js then FM.frzI o else o) :: frzJ js (n + 1) ρ
  | _, [] => []
theorem envs_frzJ {F H : Hp} {js : List Nat} : ∀ {n : Nat} {σ : L2.St} {ρ : List O} {S : List Addr}, Envs k F H σ ρ S → (∀ a ∈ S, F a = none) → S.Nodup → ∃ T I : List Addr, FrT F H S T ∧ (∀ a ∈ I, a ∈ S) ∧ (∀ a ∈ I, a ∉ T) ∧ (∀ U : List Addr, (∀ a ∈ T, a ∈ U) → (∀ a ∈ U, F a = none) → Envs k (over F H U) H σ (frzJ js n ρ) I)
  | _, _, _, _, .nil, _, _ => ⟨[], [], .nil, (fun a m => by cases m), (fun a m => by cases m), fun _ _ _ => .nil⟩
  | n, _, _, _, .dead r, off, nd => by
    obtain ⟨T, I, m, n1, n2, e⟩ := envs_frzJ (n := n + 1) r off nd
    refine ⟨T, I, m, n1, n2, fun U h1 h2 => ?_⟩
    show Envs _ _ _ _ ((if n ∈ js then FM.frzI .dead else .dead) :: frzJ js (n + 1) _) I
    have : (if n ∈ js then FM.frzI .dead else O.dead) = .dead := by split <;> rfl
    rw [this]
    exact .dead (e U h1 h2)
  | n, _, _, _, .cons (v := v) (o := o) (S := S1) (T := S2) w r, off, nd => by
    obtain ⟨nd1, nd2, dj⟩ := List.nodup_append.mp nd
    obtain ⟨T2, I2, m2, n2, d2, e2⟩ := envs_frzJ (n := n + 1) r (fun a z => off a (List.mem_append_right _ z)) nd2
    have one : ∃ T1 I1, FrT F H S1 T1 ∧ (∀ a ∈ I1, a ∈ S1) ∧ (∀ a ∈ I1, a ∉ T1) ∧ ∀ U : List Addr, (∀ a ∈ T1, a ∈ U) → (∀ a ∈ U, F a = none) → Own k (over F H U) H v (if n ∈ js then FM.frzI o else o) I1 := by
      by_cases c : n ∈ js
      · rw [if_pos c]
        obtain ⟨T1, I1, m1, n1, e1⟩ := Own.frzI w fun a z => off a (List.mem_append_left _ z)
        exact ⟨T1, I1, m1, fun a z => (n1 a z).1, fun a z y => (n1 a z).2 (m1.nin a y), e1⟩
      · rw [if_neg c]
        exact ⟨[], S1, .nil, fun a z => z, (fun a z y => by cases y), fun U _ h2 => Own.mono (over_sub fun a z => h2 a z) (fun a _ u z => z) w⟩
    obtain ⟨T1, I1, m1, n1, d1, e1⟩ := one
    refine ⟨T1 ++ T2, I1 ++ I2, m1.app m2, fun a z => (List.mem_append.mp z).elim (fun z => List.mem_append_left _ (n1 a z)) (fun z => List.mem_append_right _ (n2 a z)), fun a z y => ?_, fun U h1 h2 => ?_⟩
    · rcases List.mem_append.mp z with z | z <;> rcases List.mem_append.mp y with y | y
      · exact d1 a z y
      · exact dj a (n1 a z) a (m2.sub a y) rfl
      · exact dj a (m1.sub a y) a (n2 a z) rfl
      · exact d2 a z y
    · exact .cons (e1 U (fun a z => h1 a (List.mem_append_left _ z)) h2) (e2 U (fun a z => h1 a (List.mem_append_right _ z)) h2)
theorem qs_frzJ {F H : Hp} {σ : L2.St} {ρ : List O} {S : List Addr} {js : List Nat} (q : Qs k F H σ ρ S) (nd : S.Nodup) : ∃ T I, FrT F H S T ∧ Qs k (over F H T) H σ (frzJ js 0 ρ) I := by
  obtain ⟨T, I, f, n, d, e⟩ := envs_frzJ (js := js) (n := 0) q.env q.off nd
  refine ⟨T, I, f, over_le q.fle, e T (fun _ z => z) (fun a z => q.off a (f.sub a z)), fun a m => ?_⟩
  rw [over_out (d a m)]
  exact q.off a (n a m)
/-- a quiet statement among others: done with some slots frozen -/
def sQs (js J : List Nat) (m : MS) : MS := fun ρ => match m (frzJ js 0 ρ) with
  | .next ρ' => if mixOk J 0 ρ ρ' then .next (mixJ J 0 ρ ρ') else .bad
  | .ret (.fz d) _ => if imm d then .ret (.fz d) ρ else .bad
  | _ => .bad
theorem tsm_qs {js J : List Nat} {t : TS} {m : MS} (h : TSq k J t m) : TSm k E J t (sQs js J m) := by
  intro P e σ ρ vs os H D o s g
  obtain ⟨F, S1, S2, s⟩ := s
  obtain ⟨T, I, f, qs⟩ := qs_frzJ (js := js) s.qs (List.nodup_append.mp s.fr.nd).1
  refine h.run qs ?_
  unfold sQs at g
  split at g
  · rename_i ρ' e1
    rw [e1]
    split at g
    · rename_i mo
      intro σ' F' H' S' ag x q'
      obtain ⟨G, x2, off2, rt⟩ := back_xt f s.qs.fle (fun a m => (s.qs.env.there a m).1) s.qs.off x
      have s2 := s.xt x2
      refine g σ' H' ⟨G, S1, S2, envs_mix rt s2.env q'.env (fun i hi => ag.at_ i (by rw [Nat.zero_add] at hi; exact hi)) mo, s2.tmp, s2.fr, fun p m => ?_⟩
      rw [ag.at_ p.1 (o p m)]
      exact s.pin p m
    · exact g.elim
  · rename_i d ρ' e1
    rw [e1]
    split at g
    · rename_i im
      intro v F' H' x r
      obtain ⟨G, x2, off2, rt⟩ := back_xt f s.qs.fle (fun a m => (s.qs.env.there a m).1) s.qs.off x
      exact g σ v H' ⟨G, S1, [] ++ S2, s.push x2 (.fz (Rep.immH rt r im)) ⟨.nil, (fun a m => by cases m), (fun a m => by cases m), (fun a m => by cases m)⟩⟩
    · exact g.elim
  · exact g.elim
end
theorem wS_noC {r : RS} {nx bk ct bk' ct' : List O → Prop} {rt : O → List O → Prop} (h : wS r nx rt (fun _ => False) (fun _ => False)) : wS (noC r) nx rt bk ct := by
  cases r with
  | next ρ => exact h
  | ret o ρ => exact h
  | brk ρ => exact h.elim
  | cont ρ => exact h.elim
  | exc x ρ => exact h.elim
  | bad => exact h.elim
theorem wS_fNoC {m : MS} {ρ : List O} {nx bk ct : List O → Prop} {rt : O → List O → Prop} (h : wS (m ρ) nx rt (fun _ => False) (fun _ => False)) : wS (fNoC m ρ) nx rt bk ct := wS_noC (bk' := bk) (ct' := ct) h
theorem wS_forQ {q : QI} {f : QG} {a : MS} {ρ : List O} {ds : List PD} {nx bk ct : List O → Prop} {rt : O → List O → Prop} (h : q ρ = some ds) (g : wS (forGo f (fNoC a) ds ρ) nx rt bk ct) : wS (sForQ q f a ρ) nx rt bk ct := by
  unfold sForQ
  rw [h]
  exact g
theorem wS_forKQ {q : QE} {f : QG} {a : MS} {ρ : List O} {ps : List (PD × PD)} {nx bk ct : List O → Prop} {rt : O → List O → Prop} (h : q ρ = some (.fz (.dict ps))) (g : wS (forGo f (fNoC a) (keysP ps) ρ) nx rt bk ct) : wS (sForKQ q f a ρ) nx rt bk ct := by
  unfold sForKQ
  rw [h]
  exact g
theorem wS_qs {js J : List Nat} {m : MS} {ρ : List O} {nx bk ct : List O → Prop} {rt : O → List O → Prop} (h : wS (m (frzJ js 0 ρ)) (fun ρ' => mixOk J 0 ρ ρ' = true ∧ nx (mixJ J 0 ρ ρ')) (fun o _ => ∃ d, o = .fz d ∧ imm d = true ∧ rt (.fz d) ρ) (fun _ => False) (fun _ => False)) : wS (sQs js J m ρ) nx rt bk ct := by
  unfold sQs
  cases e : m (frzJ js 0 ρ) with
  | next ρ' =>
    rw [e] at h
    obtain ⟨h1, h2⟩ := h
    simp only
    rw [if_pos h1]
    exact h2
  | ret o ρ' =>
    rw [e] at h
    obtain ⟨d, rfl, im, q⟩ := h
    simp only
    rw [if_pos im]
    exact q
  | brk ρ => rw [e] at h; exact h.elim
  | cont ρ => rw [e] at h; exact h.elim
  | exc x ρ => rw [e] at h; exact h.elim
  | bad => rw [e] at h; exact h.elim
/-! ### one's own dict, is it {}? -/
section
variable {k : Kc}
def rEqD0 : R2 := fun x y H Q => ∃ a b ks, x = .ref a ∧ y = .ref b ∧ Rd H a (.dK ks) ∧ Rd H b (.dK []) ∧ Q (.bl (ks.length == 0)) H
def rNeD0 : R2 := fun x y H Q => ∃ a b ks, x = .ref a ∧ y = .ref b ∧ Rd H a (.dK ks) ∧ Rd H b (.dK []) ∧ Q (.bl (!(ks.length == 0))) H
theorem op_eqD0 {X : Cx} (hu : X.A.units + 64 < cLine) : OpR X (compareOp .Eq) rEqD0 := by
  intro pins s σ H x y v u Q I rx ry h
  obtain ⟨a, b, ks, rfl, rfl, ha, hb, q⟩ := h
  cases (show v = Value.ref a from rx)
  cases (show u = Value.ref b from ry)
  obtain ⟨_, ya, va, ra, da⟩ := dk_rd I.hok ha
  obtain ⟨_, yb, vb, rb, db⟩ := dk_rd I.hok hb
  have lb : vb.length = 0 := rb.length.symm
  refine PySem.W.keq_eq (knd := mixKind X.prog X.w) (r := true) ya yb da db (by omega) (fun z => hitsI rb ra fun p m => ?_) ?_
  · have : ks.length = 0 := by rw [ra.length, z, lb]
    rw [List.length_eq_zero_iff.mp this] at m
    cases m
  · rw [show (va.length == vb.length && true) = (ks.length == 0) from by rw [lb, ra.length]; simp]
    exact ⟨.bl (ks.length == 0), H, I, rfl, q⟩
theorem op_neD0 {X : Cx} (hu : X.A.units + 64 < cLine) : OpR X (compareOp .NotEq) rNeD0 := by
  intro pins s σ H x y v u Q I rx ry h
  obtain ⟨a, b, ks, rfl, rfl, ha, hb, q⟩ := h
  cases (show v = Value.ref a from rx)
  cases (show u = Value.ref b from ry)
  obtain ⟨_, ya, va, ra, da⟩ := dk_rd I.hok ha
  obtain ⟨_, yb, vb, rb, db⟩ := dk_rd I.hok hb
  have lb : vb.length = 0 := rb.length.symm
  refine PySem.W.keq_ne (knd := mixKind X.prog X.w) (r := true) ya yb da db (by omega) (fun z => hitsI rb ra fun p m => ?_) ?_
  · have : ks.length = 0 := by rw [ra.length, z, lb]
    rw [List.length_eq_zero_iff.mp this] at m
    cases m
  · rw [show (va.length == vb.length && true) = (ks.length == 0) from by rw [lb, ra.length]; simp]
    exact ⟨.bl (!(ks.length == 0)), H, I, rfl, q⟩
def qEqD0 (q : QE) : QE := fun ρ => match q ρ with
  | some (.dic ds) => some (.fz (.bool (ds.length == 0)))
  | _ => none
def qNeD0 (q : QE) : QE := fun ρ => match q ρ with
  | some (.dic ds) => some (.fz (.bool (!(ds.length == 0))))
  | _ => none
theorem tev_eqD0 {ta : TE} {qa : QE} (ha : TEv k ta qa) : TEv k (tOp rEqD0 ta tDNewK) (qEqD0 qa) := by
  intro F H σ ρ S o Q qs e g
  unfold qEqD0 at e
  split at e
  · rename_i ds e1
    cases e
    refine ha F H σ ρ S _ _ qs e1 fun v F1 H1 x1 w1 => ?_
    refine ten_dk0 F1 H1 σ ρ S _ _ (qs.xt x1) rfl fun w F2 H2 T x2 w2 f2 => ?_
    obtain ⟨a, ks, rfl, a1, a2⟩ := (w1.xt x2).dicK x2.fle rfl
    cases w2 with
    | dic h r =>
      cases r with
      | nil => exact ⟨_, _, ks, rfl, rfl, a1, h, g _ F2 H2 (x1.trans x2) (by rw [a2.len']; exact .fz (.bl _))⟩
  · cases e
theorem tev_neD0 {ta : TE} {qa : QE} (ha : TEv k ta qa) : TEv k (tOp rNeD0 ta tDNewK) (qNeD0 qa) := by
  intro F H σ ρ S o Q qs e g
  unfold qNeD0 at e
  split at e
  · rename_i ds e1
    cases e
    refine ha F H σ ρ S _ _ qs e1 fun v F1 H1 x1 w1 => ?_
    refine ten_dk0 F1 H1 σ ρ S _ _ (qs.xt x1) rfl fun w F2 H2 T x2 w2 f2 => ?_
    obtain ⟨a, ks, rfl, a1, a2⟩ := (w1.xt x2).dicK x2.fle rfl
    cases w2 with
    | dic h r =>
      cases r with
      | nil => exact ⟨_, _, ks, rfl, rfl, a1, h, g _ F2 H2 (x1.trans x2) (by rw [a2.len']; exact .fz (.bl _))⟩
  · cases e
@[simp] theorem qEqD0_eq {q : QE} {ρ : List O} : qEqD0 q ρ = match q ρ with
  | some (.dic ds) => some (.fz (.bool (ds.length == 0)))
  | _ => none := rfl
@[simp] theorem qNeD0_eq {q : QE} {ρ : List O} : qNeD0 q ρ = match q ρ with
  | some (.dic ds) => some (.fz (.bool (!(ds.length == 0))))
  | _ => none := rfl
end
end FM
namespace FM
open PySem PySem.Spec L2 PyProof.Rows
structure Fct (K : Frag) (cl : Nat → Addr) (mg : Str → Option Value) : Prop where
  c_Floor : Cls K (cl 0)
  n_Floor_things : NoAttr K (cl 0) "things"
  n_Floor_own_places : NoAttr K (cl 0) "own_places"
  n_Floor_held : NoAttr K (cl 0) "held"
  n_Floor_many : NoAttr K (cl 0) "many"
  f_abs : mg "abs" = none
  f_any : mg "any" = none
  f_dict : mg "dict" = none
  f_enumerate : mg "enumerate" = none
  f_int : mg "int" = none
  f_len : mg "len" = none
  f_list : mg "list" = none
  f_max : mg "max" = none
  f_min : mg "min" = none
  f_range : mg "range" = none
  f_sorted : mg "sorted" = none
  f_tuple : mg "tuple" = none
  f_zip : mg "zip" = none
section
variable {P : Program} {w : World} {K : Frag} {mg : Str → Option Value} {base : Heap} {cl : Nat → Addr}
theorem sc__law_tape : FnScope ["_law_script", "_law_k", "_law_cell"] ["_law_script", "_law_k"] (defScope s__law_tape) := ⟨rfl, rfl, rfl, by decide +kernel, rfl, by decide +kernel, by decide +kernel⟩
noncomputable def m__law_tape : MS := (sSeq (sSet 2 (mLift (qIf (qB (qOp oLt (qVar 1) (qCb oLen (qCons (qVar 0) qNil)))) (qOp oIx (qVar 0) (qVar 1)) (qC (.int 0))))) (sRet (mNew (qLst (qCons (qOp oMul (qCb oAbs (qCons (qVar 2) qNil)) (qCb oInt (qCons (qOp oGe (qCb oAbs (qCons (qVar 2) qNil)) (qOp oPow (qC (.int 10)) (qC (.int 18)))) qNil))) (qCons (qOp oAdd (qOp oAdd (qOp oMod (qVar 2) (qC (.int 2305843009213693951))) (qOp oMul (qC (.int 39373)) (qVar 1))) (qC (.int 17))) (qCons (qC (.int 0)) qNil)))))))
noncomputable def f__law_tape : List O → FR := defN 1 [false, false] m__law_tape
theorem ok__law_tape {f : Addr} {fd : FuncData} (Fc : Fct K cl mg) (F : FunD K "_law_tape" "_law_tape" (defArgs s__law_tape) (defBody s__law_tape) (defScope s__law_tape) [] [] f fd) (g : mg "_law_tape" = some (.ref f)) : CalG P w K mg base 1 "_law_tape" (spM ⟨K, cl⟩ 2 f__law_tape) := by
  refine ⟨f, fd, ["_law_script", "_law_k"], ?_, g, F.kp, F.bindsN fun _ _ _ _ _ _ us hl => match us, hl with | [_, _], _ => rfl⟩
  refine def_okN (io := [false, false]) (more := 1) (m := m__law_tape) F sc__law_tape rfl rfl ?_
  intro cdv A outer s H E hr
  exact ⟨_, _, (pss_cons (ps_set (i := 2) sc__law_tape.nd rfl (.inl rfl) (pe_ifExp (pt_cmpR op_lt (pv 1) (pe_callB call_lenU rfl Fc.f_len (by rfl) (pa_cons (pv 0) pa_nil)) (nomark _)) (pe_ix (ix_U hr.u1) (pv 0) (pv 1) (fun _ _ => rfl)) pe_int)) (pss_one (ps_ret (pe_lst (pa_cons (pe_op op_mulU (pe_callB call_abs rfl Fc.f_abs (by rfl) (pa_cons (pv 2) pa_nil)) (pe_callTy call_intU rfl Fc.f_int (by rfl) (pa_cons (pe_cmpR op_ge (pe_callB call_abs rfl Fc.f_abs (by rfl) (pa_cons (pv 2) pa_nil)) (pe_op op_pow pe_int pe_int) (nomark _)) pa_nil))) (pa_cons (pe_op op_addU (pe_op op_addU (pe_op op_mod (pv 2) pe_int) (pe_op op_mulU pe_int (pv 1))) pe_int) (pa_cons pe_int pa_nil))))))), (tsm_seq (tsm_set (tem_lift (tev_if (ttv_test (tev_op (tev_var (i := 1)) (tev_cb (tav_cons (tev_var (i := 0)) tav_nil) cb_len) ov_lt)) (tev_op (tev_var (i := 0)) (tev_var (i := 1)) ov_ix) (tev_c fun _ => .int _)))) (tsm_ret (tem_new (ten_lst (tav_cons (tev_op (tev_cb (tav_cons (tev_var (i := 2)) tav_nil) cb_abs) (tev_cb (tav_cons (tev_op (tev_cb (tav_cons (tev_var (i := 2)) tav_nil) cb_abs) (tev_op (tev_c fun _ => .int _) (tev_c fun _ => .int _) ov_pow) ov_ge) tav_nil) cb_int) ov_mul) (tav_cons (tev_op (tev_op (tev_op (tev_var (i := 2)) (tev_c fun _ => .int _) ov_mod) (tev_op (tev_c fun _ => .int _) (tev_var (i := 1)) ov_mul) ov_add) (tev_c fun _ => .int _) ov_add) (tav_cons (tev_c fun _ => .int _) tav_nil))))))), by decide⟩
theorem sc_Floor___init__ : FnScope ["self"] ["self"] (defScope s_Floor___init__) := ⟨rfl, rfl, rfl, by decide +kernel, rfl, by decide +kernel, by decide +kernel⟩
noncomputable def m_Floor___init__ : MS := (sSeq (sSetF 0 0 "things" (mNew qDk0)) (sSeq (sSetF 0 0 "own_places" (mNew qDk0)) (sSeq (sSetF 0 0 "held" (mNew (qLst qNil))) (sSetF 0 0 "many" (mLift (qC (.int 0)))))))
noncomputable def f_Floor___init__ : List O → FR := defN 0 [true] m_Floor___init__
theorem ok_Floor___init__ {f : Addr} {fd : FuncData} (Fc : Fct K cl mg) (F : FunD K "__init__" "Floor.__init__" (defArgs s_Floor___init__) (defBody s_Floor___init__) (defScope s_Floor___init__) [] [] f fd) (g : Mk K (cl 0) f ∧ mg "Floor" = some (.ref (cl 0))) : MakG P w K mg base 1 "Floor" (cl 0) (spM ⟨K, cl⟩ 1 f_Floor___init__) := by
  refine ⟨f, fd, ["self"], ?_, g.1, g.2, F.bindsN fun _ _ _ _ _ _ us hl => match us, hl with | [_], _ => rfl⟩
  refine def_okN (io := [true]) (more := 0) (m := m_Floor___init__) F sc_Floor___init__ rfl rfl ?_
  intro cdv A outer s H E hr
  exact ⟨_, _, (pss_cons (ps_fld (pv 0) pe_dnewK rfl) (pss_cons (ps_fld (pv 0) pe_dnewK rfl) (pss_cons (ps_fld (pv 0) (pe_lst pa_nil) rfl) (pss_one (ps_fld (pv 0) pe_int rfl))))), (tsm_seq (tsm_setF Fc.c_Floor Fc.n_Floor_things (tem_new ten_dk0)) (tsm_seq (tsm_setF Fc.c_Floor Fc.n_Floor_own_places (tem_new ten_dk0)) (tsm_seq (tsm_setF Fc.c_Floor Fc.n_Floor_held (tem_new (ten_lst tav_nil))) (tsm_setF Fc.c_Floor Fc.n_Floor_many (tem_lift (tev_c fun _ => .int _)))))), by decide⟩
theorem sc__law_draw : FnScope ["_law_tape_here", "_law_many", "_law_found", "_law_once", "_law_twice"] ["_law_tape_here", "_law_many"] (defScope s__law_draw) := ⟨rfl, rfl, rfl, by decide +kernel, rfl, by decide +kernel, by decide +kernel⟩
noncomputable def m__law_draw : MS := (sSeq (sIf (bLift (qB (qOp oGt (qOp oIx (qVar 0) (qC (.int 0))) (qC (.int 0))))) (sSeq (sSet 2 (mLift (qOp oMod (qOp oIx (qVar 0) (qC (.int 0))) (qVar 1)))) (sSeq (sSetU 0 (qC (.int 0)) (mLift (qOp oDiv (qOp oIx (qVar 0) (qC (.int 0))) (qVar 1)))) (sRet (mLift (qVar 2))))) sNext) (sSeq (sSetU 0 (qC (.int 2)) (mLift (qOp oAdd (qOp oIx (qVar 0) (qC (.int 2))) (qC (.int 1))))) (sSeq (sSet 3 (mLift (qOp oMod (qOp oPow (qOp oAdd (qOp oIx (qVar 0) (qC (.int 1))) (qOp oMul (qC (.int 39373)) (qOp oIx (qVar 0) (qC (.int 2))))) (qC (.int 5))) (qC (.int 2147483647))))) (sSeq (sSet 4 (mLift (qOp oMod (qOp oMul (qOp oAdd (qVar 3) (qOp oIx (qVar 0) (qC (.int 2)))) (qOp oAdd (qOp oAdd (qOp oMod (qVar 3) (qC (.int 40009))) (qC (.int 7))) (qOp oIx (qVar 0) (qC (.int 2))))) (qC (.int 2147483629))))) (sRet (mLift (qOp oMod (qOp oDiv (qOp oMod (qOp oAdd (qOp oMul (qVar 4) (qC (.int 48271))) (qVar 3)) (qC (.int 2147483587))) (qC (.int 64))) (qVar 1))))))))
noncomputable def f__law_draw : List O → FR := defN 3 [true, false] m__law_draw
theorem ok__law_draw {f : Addr} {fd : FuncData} (Fc : Fct K cl mg) (F : FunD K "_law_draw" "_law_draw" (defArgs s__law_draw) (defBody s__law_draw) (defScope s__law_draw) [] [] f fd) (g : mg "_law_draw" = some (.ref f)) : CalG P w K mg base 1 "_law_draw" (spM ⟨K, cl⟩ 2 f__law_draw) := by
  refine ⟨f, fd, ["_law_tape_here", "_law_many"], ?_, g, F.kp, F.bindsN fun _ _ _ _ _ _ us hl => match us, hl with | [_, _], _ => rfl⟩
  refine def_okN (io := [true, false]) (more := 3) (m := m__law_draw) F sc__law_draw rfl rfl ?_
  intro cdv A outer s H E hr
  exact ⟨_, _, (pss_cons (ps_if (pt_cmpR op_gt (pe_ix (ix_U hr.u1) (pv 0) pe_int (fun _ _ => rfl)) pe_int (nomark _)) (pss_cons (ps_set (i := 2) sc__law_draw.nd rfl (.inl rfl) (pe_op op_mod (pe_ix (ix_U hr.u1) (pv 0) pe_int (fun _ _ => rfl)) (pv 1))) (pss_cons (ps_asg (pe_op op_fdivW (pe_ix (ix_U hr.u1) (pv 0) pe_int (fun _ _ => rfl)) (pv 1)) (pg_sub (pv 0) pe_int (set_U hr.u1))) (pss_one (ps_ret (pv 2))))) pss_nil) (pss_cons (ps_asg (pe_op op_addU (pe_ix (ix_U hr.u1) (pv 0) pe_int (fun _ _ => rfl)) pe_int) (pg_sub (pv 0) pe_int (set_U hr.u1))) (pss_cons (ps_set (i := 3) sc__law_draw.nd rfl (.inl rfl) (pe_op op_mod (pe_op op_pow (pe_op op_addU (pe_ix (ix_U hr.u1) (pv 0) pe_int (fun _ _ => rfl)) (pe_op op_mulU pe_int (pe_ix (ix_U hr.u1) (pv 0) pe_int (fun _ _ => rfl)))) pe_int) pe_int)) (pss_cons (ps_set (i := 4) sc__law_draw.nd rfl (.inl rfl) (pe_op op_mod (pe_op op_mulU (pe_op op_addU (pv 3) (pe_ix (ix_U hr.u1) (pv 0) pe_int (fun _ _ => rfl))) (pe_op op_addU (pe_op op_addU (pe_op op_mod (pv 3) pe_int) pe_int) (pe_ix (ix_U hr.u1) (pv 0) pe_int (fun _ _ => rfl)))) pe_int)) (pss_one (ps_ret (pe_op op_mod (pe_op op_fdivW (pe_op op_mod (pe_op op_addU (pe_op op_mulU (pv 4) pe_int) (pv 3)) pe_int) pe_int) (pv 1)))))))), (tsm_seq (tsm_if (ttm_lift (ttv_test (tev_op (tev_op (tev_var (i := 0)) (tev_c fun _ => .int _) ov_ix) (tev_c fun _ => .int _) ov_gt))) (tsm_seq (tsm_set (tem_lift (tev_op (tev_op (tev_var (i := 0)) (tev_c fun _ => .int _) ov_ix) (tev_var (i := 1)) ov_mod))) (tsm_seq (tsm_setU (tem_lift (tev_op (tev_op (tev_var (i := 0)) (tev_c fun _ => .int _) ov_ix) (tev_var (i := 1)) ov_div)) (tev_c fun _ => .int _)) (tsm_ret (tem_lift (tev_var (i := 2)))))) tsm_next) (tsm_seq (tsm_setU (tem_lift (tev_op (tev_op (tev_var (i := 0)) (tev_c fun _ => .int _) ov_ix) (tev_c fun _ => .int _) ov_add)) (tev_c fun _ => .int _)) (tsm_seq (tsm_set (tem_lift (tev_op (tev_op (tev_op (tev_op (tev_var (i := 0)) (tev_c fun _ => .int _) ov_ix) (tev_op (tev_c fun _ => .int _) (tev_op (tev_var (i := 0)) (tev_c fun _ => .int _) ov_ix) ov_mul) ov_add) (tev_c fun _ => .int _) ov_pow) (tev_c fun _ => .int _) ov_mod))) (tsm_seq (tsm_set (tem_lift (tev_op (tev_op (tev_op (tev_var (i := 3)) (tev_op (tev_var (i := 0)) (tev_c fun _ => .int _) ov_ix) ov_add) (tev_op (tev_op (tev_op (tev_var (i := 3)) (tev_c fun _ => .int _) ov_mod) (tev_c fun _ => .int _) ov_add) (tev_op (tev_var (i := 0)) (tev_c fun _ => .int _) ov_ix) ov_add) ov_mul) (tev_c fun _ => .int _) ov_mod))) (tsm_ret (tem_lift (tev_op (tev_op (tev_op (tev_op (tev_op (tev_var (i := 4)) (tev_c fun _ => .int _) ov_mul) (tev_var (i := 3)) ov_add) (tev_c fun _ => .int _) ov_mod) (tev_c fun _ => .int _) ov_div) (tev_var (i := 1)) ov_mod))))))), by decide⟩
theorem sc__law_small : FnScope ["_law_tape_here"] ["_law_tape_here"] (defScope s__law_small) := ⟨rfl, rfl, rfl, by decide +kernel, rfl, by decide +kernel, by decide +kernel⟩
noncomputable def m__law_small : MS := (sRet (mTup (mCons (mOp oAdd (mLift (qC (.int 1))) (frzM (mCall f__law_draw [some 0, none] (mRef 0 (mCons (mLift (qC (.int 12))) mNil))))) (mCons (mOp oIx (mLift (qFz (qLst (qCons (qC (.int 1)) (qCons (qC (.int 2)) (qCons (qC (.int 4)) (qCons (qC (.int 8)) (qCons (qC (.int 3)) (qCons (qC (.int 5)) (qCons (qC (.int 6)) (qCons (qC (.int 16)) qNil))))))))))) (frzM (mCall f__law_draw [some 0, none] (mRef 0 (mCons (mLift (qC (.int 8))) mNil))))) mNil))))
noncomputable def f__law_small : List O → FR := defN 0 [true] m__law_small
theorem ok__law_small {f : Addr} {fd : FuncData} (Fc : Fct K cl mg) (F : FunD K "_law_small" "_law_small" (defArgs s__law_small) (defBody s__law_small) (defScope s__law_small) [] [] f fd) (g : mg "_law_small" = some (.ref f)) (c__law_draw : CalG P w K mg base 1 "_law_draw" (spM ⟨K, cl⟩ 2 f__law_draw)) : CalG P w K mg base 2 "_law_small" (spM ⟨K, cl⟩ 1 f__law_small) := by
  refine ⟨f, fd, ["_law_tape_here"], ?_, g, F.kp, F.bindsN fun _ _ _ _ _ _ us hl => match us, hl with | [_], _ => rfl⟩
  refine def_okN (io := [true]) (more := 0) (m := m__law_small) F sc__law_small rfl rfl ?_
  intro cdv A outer s H E hr
  exact ⟨_, _, (pss_one (ps_ret (pe_tup (pa_cons (pe_op op_addU pe_int (pe_g c__law_draw hr (by decide) passL rfl (pa_cons (pv 0) (pa_cons pe_int pa_nil)))) (pa_cons (pe_ix (ix_U hr.u1) (pe_lst (pa_cons pe_int (pa_cons pe_int (pa_cons pe_int (pa_cons pe_int (pa_cons pe_int (pa_cons pe_int (pa_cons pe_int (pa_cons pe_int pa_nil))))))))) (pe_g c__law_draw hr (by decide) passL rfl (pa_cons (pv 0) (pa_cons pe_int pa_nil))) (fun _ _ => rfl)) pa_nil))))), (tsm_ret (tem_tup (tam_val (tem_op (tem_lift (tev_c fun _ => .int _)) (tem_frz (tem_call rfl (tam_ref (tam_val (tem_lift (tev_c fun _ => .int _)) tam_nil)))) ov_add) (tam_val (tem_op (tem_lift (tev_n (ten_lst (tav_cons (tev_c fun _ => .int _) (tav_cons (tev_c fun _ => .int _) (tav_cons (tev_c fun _ => .int _) (tav_cons (tev_c fun _ => .int _) (tav_cons (tev_c fun _ => .int _) (tav_cons (tev_c fun _ => .int _) (tav_cons (tev_c fun _ => .int _) (tav_cons (tev_c fun _ => .int _) tav_nil))))))))))) (tem_frz (tem_call rfl (tam_ref (tam_val (tem_lift (tev_c fun _ => .int _)) tam_nil)))) ov_ix) tam_nil)))), by decide⟩
theorem sc__law_rooms : FnScope ["_law_thing", "_law_place"] ["_law_thing", "_law_place"] (defScope s__law_rooms) := ⟨rfl, rfl, rfl, by decide +kernel, rfl, by decide +kernel, by decide +kernel⟩
noncomputable def m__law_rooms : MS := (sRet (mNew (qLrg2 (qVar 1) (qOp oAdd (qVar 1) (qOp oIx (qVar 0) (qC (.int 0)))))))
noncomputable def f__law_rooms : List O → FR := defN 0 [false, false] m__law_rooms
theorem ok__law_rooms {f : Addr} {fd : FuncData} (Fc : Fct K cl mg) (F : FunD K "_law_rooms" "_law_rooms" (defArgs s__law_rooms) (defBody s__law_rooms) (defScope s__law_rooms) [] [] f fd) (g : mg "_law_rooms" = some (.ref f)) : CalG P w K mg base 1 "_law_rooms" (spM ⟨K, cl⟩ 2 f__law_rooms) := by
  refine ⟨f, fd, ["_law_thing", "_law_place"], ?_, g, F.kp, F.bindsN fun _ _ _ _ _ _ us hl => match us, hl with | [_, _], _ => rfl⟩
  refine def_okN (io := [false, false]) (more := 0) (m := m__law_rooms) F sc__law_rooms rfl rfl ?_
  intro cdv A outer s H E hr
  exact ⟨_, _, (pss_one (ps_ret (pe_listRg rfl rfl Fc.f_list (prg_2 rfl Fc.f_range (pv 1) (pe_op op_addU (pv 1) (pe_ix (ix_U hr.u1) (pv 0) pe_int (fun _ _ => rfl))))))), (tsm_ret (tem_new (ten_lrg2 (tev_var (i := 1)) (tev_op (tev_var (i := 1)) (tev_op (tev_var (i := 0)) (tev_c fun _ => .int _) ov_ix) ov_add)))), by decide⟩
theorem sc__law_least : FnScope ["_law_thing", "_law_signs", "_law_place", "_law_room"] ["_law_thing", "_law_signs"] (defScope s__law_least) := ⟨rfl, rfl, rfl, by decide +kernel, rfl, by decide +kernel, by decide +kernel⟩
noncomputable def m__law_least : MS := (sSeq (sSet 2 (mLift (qC (.int 0)))) (sSeq (sWhile (bLift (qB (qCb oAny (qCons (qFz (qLc (qItA (qCall (qOf f__law_rooms) (qCons (qVar 0) (qCons (qVar 2) qNil)))) (fName 3) qYes (qOp oIn (qVar 3) (qVar 1)) [3])) qNil)))) (sSet 2 (mLift (qOp oAdd (qVar 2) (qOp oIx (qVar 0) (qC (.int 1))))))) (sRet (mLift (qVar 2)))))
noncomputable def f__law_least : List O → FR := defN 2 [false, true] m__law_least
theorem ok__law_least {f : Addr} {fd : FuncData} (Fc : Fct K cl mg) (F : FunD K "_law_least" "_law_least" (defArgs s__law_least) (defBody s__law_least) (defScope s__law_least) [] [] f fd) (g : mg "_law_least" = some (.ref f)) (c__law_rooms : CalG P w K mg base 1 "_law_rooms" (spM ⟨K, cl⟩ 2 f__law_rooms)) : CalG P w K mg base 2 "_law_least" (spM ⟨K, cl⟩ 2 f__law_least) := by
  refine ⟨f, fd, ["_law_thing", "_law_signs"], ?_, g, F.kp, F.bindsN fun _ _ _ _ _ _ us hl => match us, hl with | [_, _], _ => rfl⟩
  refine def_okN (io := [false, true]) (more := 2) (m := m__law_least) F sc__law_least rfl rfl ?_
  intro cdv A outer s H E hr
  exact ⟨_, _, (pss_cons (ps_set (i := 2) sc__law_least.nd rfl (.inl rfl) pe_int) (pss_cons (ps_while PassesOwn.never (pt_val (pe_callB (cr_any rfl) rfl Fc.f_any (by rfl) (pa_cons (pe_lc (own := [("_law_room", 3)]) rfl sc__law_least.nd (pi_any (pe_g c__law_rooms.quiet hr (by decide) passL rfl (pa_cons (pv 0) (pa_cons (pv 2) pa_nil)))) (blkOk_by (N := ["_law_thing", "_law_signs", "_law_place", "_law_room"]) (sc := defScope s__law_least) (own := [("_law_room", 3)]) (by decide +kernel)) (fun _ _ _ _ _ => (pg_name (i := 3) sc__law_least.nd rfl (.inl rfl))) (fun _ _ _ _ _ => pts_nil) (fun _ _ _ _ _ => (pe_cmpR (op_inU hr.u65) (pv 3) (pv 1) (by with_unfolding_all rfl)))) pa_nil))) (pss_one (ps_set (i := 2) sc__law_least.nd rfl (.inl rfl) (pe_op op_addU (pv 2) (pe_ix (ix_U hr.u1) (pv 0) pe_int (fun _ _ => rfl)))))) (pss_one (ps_ret (pv 2))))), (tsm_seq (tsm_set (tem_lift (tev_c fun _ => .int _))) (tsm_seq (tsm_while (ttm_lift (ttv_B (tev_cb (tav_cons (tev_n (ten_lc (tiv_any (tev_call (qlen_cons (qlen_cons qlen_nil)) (tav_cons (tev_var (i := 0)) (tav_cons (tev_var (i := 2)) tav_nil)))) tgq_name (by decide) ttv_yes (tev_op (tev_var (i := 3)) (tev_var (i := 1)) ov_in))) tav_nil) cb_any))) (tsm_set (tem_lift (tev_op (tev_var (i := 2)) (tev_op (tev_var (i := 0)) (tev_c fun _ => .int _) ov_ix) ov_add)))) (tsm_ret (tem_lift (tev_var (i := 2)))))), by decide⟩
theorem sc_end_of : FnScope ["thing", "place"] ["thing", "place"] (defScope s_end_of) := ⟨rfl, rfl, rfl, by decide +kernel, rfl, by decide +kernel, by decide +kernel⟩
noncomputable def m_end_of : MS := (sRet (mLift (qOp oAdd (qVar 1) (qOp oIx (qVar 0) (qC (.int 0))))))
noncomputable def f_end_of : List O → FR := defN 0 [false, false] m_end_of
theorem ok_end_of {f : Addr} {fd : FuncData} (Fc : Fct K cl mg) (F : FunD K "end_of" "end_of" (defArgs s_end_of) (defBody s_end_of) (defScope s_end_of) [] [] f fd) (g : mg "end_of" = some (.ref f)) : CalG P w K mg base 1 "end_of" (spM ⟨K, cl⟩ 2 f_end_of) := by
  refine ⟨f, fd, ["thing", "place"], ?_, g, F.kp, F.bindsN fun _ _ _ _ _ _ us hl => match us, hl with | [_, _], _ => rfl⟩
  refine def_okN (io := [false, false]) (more := 0) (m := m_end_of) F sc_end_of rfl rfl ?_
  intro cdv A outer s H E hr
  exact ⟨_, _, (pss_one (ps_ret (pe_op op_addU (pv 1) (pe_ix (ix_U hr.u1) (pv 0) pe_int (fun _ _ => rfl))))), (tsm_ret (tem_lift (tev_op (tev_var (i := 1)) (tev_op (tev_var (i := 0)) (tev_c fun _ => .int _) ov_ix) ov_add))), by decide⟩
theorem sc_lie_over : FnScope ["thing", "place", "other", "there"] ["thing", "place", "other", "there"] (defScope s_lie_over) := ⟨rfl, rfl, rfl, by decide +kernel, rfl, by decide +kernel, by decide +kernel⟩
noncomputable def m_lie_over : MS := (sRet (mLift (qAndV (qOp oLt (qVar 1) (qCall (qOf f_end_of) (qCons (qVar 2) (qCons (qVar 3) qNil)))) (qOp oLt (qVar 3) (qCall (qOf f_end_of) (qCons (qVar 0) (qCons (qVar 1) qNil)))))))
noncomputable def f_lie_over : List O → FR := defN 0 [false, false, false, false] m_lie_over
theorem ok_lie_over {f : Addr} {fd : FuncData} (Fc : Fct K cl mg) (F : FunD K "lie_over" "lie_over" (defArgs s_lie_over) (defBody s_lie_over) (defScope s_lie_over) [] [] f fd) (g : mg "lie_over" = some (.ref f)) (c_end_of : CalG P w K mg base 1 "end_of" (spM ⟨K, cl⟩ 2 f_end_of)) : CalG P w K mg base 2 "lie_over" (spM ⟨K, cl⟩ 4 f_lie_over) := by
  refine ⟨f, fd, ["thing", "place", "other", "there"], ?_, g, F.kp, F.bindsN fun _ _ _ _ _ _ us hl => match us, hl with | [_, _, _, _], _ => rfl⟩
  refine def_okN (io := [false, false, false, false]) (more := 0) (m := m_lie_over) F sc_lie_over rfl rfl ?_
  intro cdv A outer s H E hr
  exact ⟨_, _, (pss_one (ps_ret (pe_and (pe_cmpR op_lt (pv 1) (pe_g c_end_of.quiet hr (by decide) passL rfl (pa_cons (pv 2) (pa_cons (pv 3) pa_nil))) (nomark _)) (pe_one (pe_cmpR op_lt (pv 3) (pe_g c_end_of.quiet hr (by decide) passL rfl (pa_cons (pv 0) (pa_cons (pv 1) pa_nil))) (nomark _)))))), (tsm_ret (tem_lift (tev_andV (tev_op (tev_var (i := 1)) (tev_call (qlen_cons (qlen_cons qlen_nil)) (tav_cons (tev_var (i := 2)) (tav_cons (tev_var (i := 3)) tav_nil))) ov_lt) (tev_op (tev_var (i := 3)) (tev_call (qlen_cons (qlen_cons qlen_nil)) (tav_cons (tev_var (i := 0)) (tav_cons (tev_var (i := 1)) tav_nil))) ov_lt)))), by decide⟩
theorem sc_rounded : FnScope ["number", "border"] ["number", "border"] (defScope s_rounded) := ⟨rfl, rfl, rfl, by decide +kernel, rfl, by decide +kernel, by decide +kernel⟩
noncomputable def m_rounded : MS := (sRet (mLift (qOp oMul (qOp oDiv (qOp oSub (qOp oAdd (qVar 0) (qVar 1)) (qC (.int 1))) (qVar 1)) (qVar 1))))
noncomputable def f_rounded : List O → FR := defN 0 [false, false] m_rounded
theorem ok_rounded {f : Addr} {fd : FuncData} (Fc : Fct K cl mg) (F : FunD K "rounded" "rounded" (defArgs s_rounded) (defBody s_rounded) (defScope s_rounded) [] [] f fd) (g : mg "rounded" = some (.ref f)) : CalG P w K mg base 1 "rounded" (spM ⟨K, cl⟩ 2 f_rounded) := by
  refine ⟨f, fd, ["number", "border"], ?_, g, F.kp, F.bindsN fun _ _ _ _ _ _ us hl => match us, hl with | [_, _], _ => rfl⟩
  refine def_okN (io := [false, false]) (more := 0) (m := m_rounded) F sc_rounded rfl rfl ?_
  intro cdv A outer s H E hr
  exact ⟨_, _, (pss_one (ps_ret (pe_op op_mulU (pe_op op_fdivW (pe_op op_sub (pe_op op_addU (pv 0) (pv 1)) pe_int) (pv 1)) (pv 1)))), (tsm_ret (tem_lift (tev_op (tev_op (tev_op (tev_op (tev_var (i := 0)) (tev_var (i := 1)) ov_add) (tev_c fun _ => .int _) ov_sub) (tev_var (i := 1)) ov_div) (tev_var (i := 1)) ov_mul))), by decide⟩
theorem sc_least_place : FnScope ["thing", "others", "found", "there", "other", "one", "place"] ["thing", "others"] (defScope s_least_place) := ⟨rfl, rfl, rfl, by decide +kernel, rfl, by decide +kernel, by decide +kernel⟩
noncomputable def m_least_place : MS := (sSeq (sSet 2 (mLift (qC (.int 0)))) (sSeq (sFor (iLift (qIfA (qFz (qCb oSortV (qCons (qFz (qLc (qItA (qVar 1)) (fTup 2 (fCons (fName 5) (fCons (fName 6) fNil))) qYes (qTup (qCons (qVar 6) (qCons (qVar 5) qNil))) [5, 6])) qNil))))) (fTup 2 (fCons (fName 3) (fCons (fName 4) fNil))) (sIf (bLift (qB (qCall (qOf f_lie_over) (qCons (qVar 0) (qCons (qVar 2) (qCons (qVar 4) (qCons (qVar 3) qNil))))))) (sSet 2 (mLift (qCall (qOf f_rounded) (qCons (qCall (qOf f_end_of) (qCons (qVar 4) (qCons (qVar 3) qNil))) (qCons (qOp oIx (qVar 0) (qC (.int 1))) qNil))))) sNext)) (sRet (mLift (qVar 2)))))
noncomputable def f_least_place : List O → FR := defN 5 [false, false] m_least_place
theorem ok_least_place {f : Addr} {fd : FuncData} (Fc : Fct K cl mg) (F : FunD K "least_place" "least_place" (defArgs s_least_place) (defBody s_least_place) (defScope s_least_place) [] [] f fd) (g : mg "least_place" = some (.ref f)) (c_lie_over : CalG P w K mg base 2 "lie_over" (spM ⟨K, cl⟩ 4 f_lie_over)) (c_rounded : CalG P w K mg base 1 "rounded" (spM ⟨K, cl⟩ 2 f_rounded)) (c_end_of : CalG P w K mg base 1 "end_of" (spM ⟨K, cl⟩ 2 f_end_of)) : CalG P w K mg base 3 "least_place" (spM ⟨K, cl⟩ 2 f_least_place) := by
  refine ⟨f, fd, ["thing", "others"], ?_, g, F.kp, F.bindsN fun _ _ _ _ _ _ us hl => match us, hl with | [_, _], _ => rfl⟩
  refine def_okN (io := [false, false]) (more := 5) (m := m_least_place) F sc_least_place rfl rfl ?_
  intro cdv A outer s H E hr
  exact ⟨_, _, (pss_cons (ps_set (i := 2) sc_least_place.nd rfl (.inl rfl) pe_int) (pss_cons (ps_for PassesOwn.never rfl (pi_any (pe_callB (cr_sortedV rfl hr.u64) rfl Fc.f_sorted (by rfl) (pa_cons (pe_lc (own := [("one", 5), ("place", 6)]) rfl sc_least_place.nd (pi_any (pv 1)) (blkOk_by (N := ["thing", "others", "found", "there", "other", "one", "place"]) (sc := defScope s_least_place) (own := [("one", 5), ("place", 6)]) (by decide +kernel)) (fun _ _ _ _ _ => (pg_tup rfl (pgs_cons (pg_name (i := 5) sc_least_place.nd rfl (.inl rfl)) (pgs_cons (pg_name (i := 6) sc_least_place.nd rfl (.inl rfl)) pgs_nil)))) (fun _ _ _ _ _ => pts_nil) (fun _ _ _ _ _ => (pe_tup (pa_cons (pv 6) (pa_cons (pv 5) pa_nil))))) pa_nil))) (pg_tup rfl (pgs_cons (pg_name (i := 3) sc_least_place.nd rfl (.inl rfl)) (pgs_cons (pg_name (i := 4) sc_least_place.nd rfl (.inl rfl)) pgs_nil))) (pss_one (ps_if (pt_val (pe_g c_lie_over.quiet hr (by decide) passL rfl (pa_cons (pv 0) (pa_cons (pv 2) (pa_cons (pv 4) (pa_cons (pv 3) pa_nil)))))) (pss_one (ps_set (i := 2) sc_least_place.nd rfl (.inl rfl) (pe_g c_rounded.quiet hr (by decide) passL rfl (pa_cons (pe_g c_end_of.quiet hr (by decide) passL rfl (pa_cons (pv 4) (pa_cons (pv 3) pa_nil))) (pa_cons (pe_ix (ix_U hr.u1) (pv 0) pe_int (fun _ _ => rfl)) pa_nil))))) pss_nil))) (pss_one (ps_ret (pv 2))))), (tsm_seq (tsm_set (tem_lift (tev_c fun _ => .int _))) (tsm_seq (tsm_for (tim_lift (tif_any (tev_n (ten_cb (tav_cons (tev_n (ten_lc (tiv_any (tev_var (i := 1))) (tgq_tup (tgsq_cons tgq_name (tgsq_cons tgq_name tgsq_nil))) (by decide) ttv_yes (tev_tup (tav_cons (tev_var (i := 6)) (tav_cons (tev_var (i := 5)) tav_nil))))) tav_nil) cn_sortV)))) (tgq_tup (tgsq_cons tgq_name (tgsq_cons tgq_name tgsq_nil))) (tsm_if (ttm_lift (ttv_B (tev_call (qlen_cons (qlen_cons (qlen_cons (qlen_cons qlen_nil)))) (tav_cons (tev_var (i := 0)) (tav_cons (tev_var (i := 2)) (tav_cons (tev_var (i := 4)) (tav_cons (tev_var (i := 3)) tav_nil))))))) (tsm_set (tem_lift (tev_call (qlen_cons (qlen_cons qlen_nil)) (tav_cons (tev_call (qlen_cons (qlen_cons qlen_nil)) (tav_cons (tev_var (i := 4)) (tav_cons (tev_var (i := 3)) tav_nil))) (tav_cons (tev_op (tev_var (i := 0)) (tev_c fun _ => .int _) ov_ix) tav_nil))))) tsm_next)) (tsm_ret (tem_lift (tev_var (i := 2)))))), by decide⟩
theorem sc_Floor_come : FnScope ["self", "size", "border", "thing", "number", "others", "t"] ["self", "size", "border"] (defScope s_Floor_come) := ⟨rfl, rfl, rfl, by decide +kernel, rfl, by decide +kernel, by decide +kernel⟩
noncomputable def m_Floor_come : MS := (sSeq (sPar 3 4 (mCons (mLift (qTup (qCons (qVar 1) (qCons (qVar 2) qNil)))) (mCons (mLift (qFld 0 0 "many")) mNil))) (sSeq (sSet 5 (mLift (qFz (qTmpN (qLc (qKeysF (qFld 0 0 "things")) (fName 6) qYes (qTup (qCons (qOp oIx (qFld 0 0 "things") (qVar 6)) (qCons (qOp oIx (qFld 0 0 "own_places") (qVar 6)) qNil))) [6]))))) (sSeq (sSetP (gtF 0 0 "own_places") (stF 0 "own_places") (qVar 4) (mLift (qCall (qOf f_least_place) (qCons (qVar 3) (qCons (qVar 5) qNil))))) (sSeq (sSetP (gtF 0 0 "things") (stF 0 "things") (qVar 4) (mLift (qVar 3))) (sSeq (sAugF 0 0 "many" (qC (.int 1))) (sRet (mLift (qVar 4))))))))
noncomputable def f_Floor_come : List O → FR := defN 4 [true, false, false] m_Floor_come
theorem ok_Floor_come {f : Addr} {fd : FuncData} (Fc : Fct K cl mg) (F : FunD K "come" "Floor.come" (defArgs s_Floor_come) (defBody s_Floor_come) (defScope s_Floor_come) [] [] f fd) (g : Meth K (cl 0) "come" f) (c_least_place : CalG P w K mg base 3 "least_place" (spM ⟨K, cl⟩ 2 f_least_place)) : MethG P w K mg base 4 (cl 0) "come" (spM ⟨K, cl⟩ 3 f_Floor_come) := by
  refine ⟨f, fd, ["self", "size", "border"], ?_, Fc.c_Floor, g, F.bindsN fun _ _ _ _ _ _ us hl => match us, hl with | [_, _, _], _ => rfl⟩
  refine def_okN (io := [true, false, false]) (more := 4) (m := m_Floor_come) F sc_Floor_come rfl rfl ?_
  intro cdv A outer s H E hr
  exact ⟨_, _, (pss_cons (ps_par (i := 3) (j := 4) rfl sc_Floor_come.nd rfl rfl (by decide) rfl rfl (pa_cons (pe_tup (pa_cons (pv 1) (pa_cons (pv 2) pa_nil))) (pa_cons (pe_fld (pv 0) rfl) pa_nil)) rfl) (pss_cons (ps_setLcF (i := 5) (own := [("t", 6)]) rfl sc_Floor_come.nd rfl rfl (sw_true rfl rfl rfl (by decide +kernel)) (pi_keys (pe_fld (pv 0) rfl)) (blkOk_by (N := ["self", "size", "border", "thing", "number", "others", "t"]) (sc := defScope s_Floor_come) (own := [("t", 6)]) (by decide +kernel)) (fun _ _ _ _ _ => (pg_name (i := 6) sc_Floor_come.nd rfl (.inl rfl))) (fun _ _ _ _ _ => pts_nil) (fun _ _ _ _ _ => (pe_tup (pa_cons (pe_ix (ix_U hr.u1) (pe_fld (pv 0) rfl) (pv 6) (fun _ _ => rfl)) (pa_cons (pe_ix (ix_U hr.u1) (pe_fld (pv 0) rfl) (pv 6) (fun _ _ => rfl)) pa_nil))))) (pss_cons (ps_asg (pe_g c_least_place.quiet hr (by decide) passL rfl (pa_cons (pv 3) (pa_cons (pv 5) pa_nil))) (pg_sub (pe_fld (pv 0) rfl) (pv 4) (set_U hr.u1))) (pss_cons (ps_asg (pv 3) (pg_sub (pe_fld (pv 0) rfl) (pv 4) (set_U hr.u1))) (pss_cons (ps_fldaug (pv 0) pe_int in_add) (pss_one (ps_ret (pv 4)))))))), (tsm_seq (tsm_par (tam_val (tem_lift (tev_tup (tav_cons (tev_var (i := 1)) (tav_cons (tev_var (i := 2)) tav_nil)))) (tam_val (tem_lift (tev_fld Fc.c_Floor Fc.n_Floor_many)) tam_nil))) (tsm_seq (tsm_set (tem_lift (tev_n (ten_tmpN (ten_lcF (trd_fld Fc.c_Floor Fc.n_Floor_things) tgq_name (by decide) ttv_yes (tev_tup (tav_cons (tev_op (tev_fld Fc.c_Floor Fc.n_Floor_things) (tev_var (i := 6)) ov_ix) (tav_cons (tev_op (tev_fld Fc.c_Floor Fc.n_Floor_own_places) (tev_var (i := 6)) ov_ix) tav_nil)))))))) (tsm_seq (tsm_setP (pld_fld Fc.c_Floor Fc.n_Floor_own_places) (tem_lift (tev_call (qlen_cons (qlen_cons qlen_nil)) (tav_cons (tev_var (i := 3)) (tav_cons (tev_var (i := 5)) tav_nil)))) (tev_var (i := 4))) (tsm_seq (tsm_setP (pld_fld Fc.c_Floor Fc.n_Floor_things) (tem_lift (tev_var (i := 3))) (tev_var (i := 4))) (tsm_seq (tsm_augF Fc.c_Floor Fc.n_Floor_many (tev_c fun _ => .int _)) (tsm_ret (tem_lift (tev_var (i := 4))))))))), by decide⟩
theorem sc_Floor_places : FnScope ["self"] ["self"] (defScope s_Floor_places) := ⟨rfl, rfl, rfl, by decide +kernel, rfl, by decide +kernel, by decide +kernel⟩
noncomputable def m_Floor_places : MS := (sRet (mNew (qCb oDictC (qCons (qFld 0 0 "own_places") qNil))))
noncomputable def f_Floor_places : List O → FR := defN 0 [true] m_Floor_places
theorem ok_Floor_places {f : Addr} {fd : FuncData} (Fc : Fct K cl mg) (F : FunD K "places" "Floor.places" (defArgs s_Floor_places) (defBody s_Floor_places) (defScope s_Floor_places) [] [] f fd) (g : Meth K (cl 0) "places" f) : MethG P w K mg base 1 (cl 0) "places" (spM ⟨K, cl⟩ 1 f_Floor_places) := by
  refine ⟨f, fd, ["self"], ?_, Fc.c_Floor, g, F.bindsN fun _ _ _ _ _ _ us hl => match us, hl with | [_], _ => rfl⟩
  refine def_okN (io := [true]) (more := 0) (m := m_Floor_places) F sc_Floor_places rfl rfl ?_
  intro cdv A outer s H E hr
  exact ⟨_, _, (pss_one (ps_ret (pe_callTy call_dictC rfl Fc.f_dict (by rfl) (pa_cons (pe_fld (pv 0) rfl) pa_nil)))), (tsm_ret (tem_new (ten_cb (tav_cons (tev_fld Fc.c_Floor Fc.n_Floor_own_places) tav_nil) cn_dict))), by decide⟩
theorem sc__law_come : FnScope ["_law_tape_here", "_law_floor", "_law_things", "_law_signs", "_law_thing", "_law_due", "_law_t", "_law_k", "_law_room"] ["_law_tape_here", "_law_floor", "_law_things", "_law_signs"] (defScope s__law_come) := ⟨rfl, rfl, rfl, by decide +kernel, rfl, by decide +kernel, by decide +kernel⟩
noncomputable def m__law_come : MS := (sSeq (sSet 4 (frzM (mCall f__law_small [some 0] (mRef 0 mNil)))) (sSeq (sPar 5 6 (mCons (frzM (mCall f__law_least [none, some 3] (mCons (mLift (qVar 4)) (mRef 3 mNil)))) (mCons (frzM (mMeth 0 1 "come" f_Floor_come [none, none] (mCons (mLift (qOp oIx (qVar 4) (qC (.int 0)))) (mCons (mLift (qOp oIx (qVar 4) (qC (.int 1)))) mNil)))) mNil))) (sSeq (sIf (bOr (bTest (mOp oNe (mGet1 (frzM (mMeth 0 1 "places" f_Floor_places [] mNil)) (qVar 6)) (mLift (qVar 5)))) (bLift (qOr (qB (qOp oIn (qVar 6) (qVar 2))) (qB (qOp oLe (qVar 6) (qCb oMax1 (qCons (qOp oAdd (qFz (qCb oListD (qCons (qVar 2) qNil))) (qFz (qLst (qCons (qUn oNeg (qC (.int 1))) qNil)))) qNil))))))) (sRet (mLift (qC (.bool false)))) sNext) (sSeq (sSetP (gtV 2) (stV 2) (qVar 6) (mLift (qVar 4))) (sSeq (sFor (iLift (qEnum (qCons (qCall (qOf f__law_rooms) (qCons (qVar 4) (qCons (qVar 5) qNil))) qNil))) (fTup 2 (fCons (fName 7) (fCons (fName 8) fNil))) (sSetP (gtV 3) (stV 3) (qVar 8) (mLift (qTup (qCons (qVar 6) (qCons (qVar 7) qNil)))))) (sRet (mLift (qC (.bool true)))))))))
noncomputable def f__law_come : List O → FR := defN 5 [true, true, true, true] m__law_come
theorem ok__law_come {f : Addr} {fd : FuncData} (Fc : Fct K cl mg) (F : FunD K "_law_come" "_law_come" (defArgs s__law_come) (defBody s__law_come) (defScope s__law_come) [] [] f fd) (g : mg "_law_come" = some (.ref f)) (c__law_small : CalG P w K mg base 2 "_law_small" (spM ⟨K, cl⟩ 1 f__law_small)) (c__law_least : CalG P w K mg base 2 "_law_least" (spM ⟨K, cl⟩ 2 f__law_least)) (c_Floor_come : MethG P w K mg base 4 (cl 0) "come" (spM ⟨K, cl⟩ 3 f_Floor_come)) (c_Floor_places : MethG P w K mg base 1 (cl 0) "places" (spM ⟨K, cl⟩ 1 f_Floor_places)) (c__law_rooms : CalG P w K mg base 1 "_law_rooms" (spM ⟨K, cl⟩ 2 f__law_rooms)) : CalG P w K mg base 5 "_law_come" (spM ⟨K, cl⟩ 4 f__law_come) := by
  refine ⟨f, fd, ["_law_tape_here", "_law_floor", "_law_things", "_law_signs"], ?_, g, F.kp, F.bindsN fun _ _ _ _ _ _ us hl => match us, hl with | [_, _, _, _], _ => rfl⟩
  refine def_okN (io := [true, true, true, true]) (more := 5) (m := m__law_come) F sc__law_come rfl rfl ?_
  intro cdv A outer s H E hr
  exact ⟨_, _, (pss_cons (ps_set (i := 4) sc__law_come.nd rfl (.inl rfl) (pe_g c__law_small hr (by decide) passL rfl (pa_cons (pv 0) pa_nil))) (pss_cons (ps_par (i := 5) (j := 6) rfl sc__law_come.nd rfl rfl (by decide) rfl rfl (pa_cons (pe_g c__law_least hr (by decide) passL rfl (pa_cons (pv 4) (pa_cons (pv 3) pa_nil))) (pa_cons (pe_mth c_Floor_come hr (by decide) passL (pv 1) (pa_cons (pe_ix (ix_U hr.u1) (pv 4) pe_int (fun _ _ => rfl)) (pa_cons (pe_ix (ix_U hr.u1) (pv 4) pe_int (fun _ _ => rfl)) pa_nil))) pa_nil)) rfl) (pss_cons (ps_if (PW.pt (pw_or (pt_cmpR (op_neU hr.u64) (pe_dget1 hr.u1 (pe_mth0 c_Floor_places hr (by decide) passL (pv 1)) (pv 6) ⟨rfl, rfl, rfl, rfl⟩) (pv 5) (nomark _)) (pw_or (pt_cmpR (op_inU hr.u65) (pv 6) (pv 2) (by with_unfolding_all rfl)) (pw_or1 (pt_cmpR op_le (pv 6) (pe_callB (cr_max rfl) rfl Fc.f_max (by rfl) (pa_cons (pe_op op_addU (pe_callTy (cr_listD rfl) rfl Fc.f_list (by rfl) (pa_cons (pv 2) pa_nil)) (pe_lst (pa_cons (pe_un un_neg pe_int) pa_nil))) pa_nil)) (nomark _)))))) (pss_one (ps_ret pe_bl)) pss_nil) (pss_cons (ps_asg (pv 4) (pg_sub (pv 2) (pv 6) (set_U hr.u1))) (pss_cons (ps_for PassesOwn.never rfl (pi_enum rfl Fc.f_enumerate (pa_cons (pe_g c__law_rooms.quiet hr (by decide) passL rfl (pa_cons (pv 4) (pa_cons (pv 5) pa_nil))) pa_nil)) (pg_tup rfl (pgs_cons (pg_name (i := 7) sc__law_come.nd rfl (.inl rfl)) (pgs_cons (pg_name (i := 8) sc__law_come.nd rfl (.inl rfl)) pgs_nil))) (pss_one (ps_asg (pe_tup (pa_cons (pv 6) (pa_cons (pv 7) pa_nil))) (pg_sub (pv 3) (pv 8) (set_U hr.u1))))) (pss_one (ps_ret pe_bl))))))), (tsm_seq (tsm_set (tem_frz (tem_call rfl (tam_ref tam_nil)))) (tsm_seq (tsm_par (tam_val (tem_frz (tem_call rfl (tam_val (tem_lift (tev_var (i := 4))) (tam_ref tam_nil)))) (tam_val (tem_frz (tem_meth rfl (tam_val (tem_lift (tev_op (tev_var (i := 4)) (tev_c fun _ => .int _) ov_ix)) (tam_val (tem_lift (tev_op (tev_var (i := 4)) (tev_c fun _ => .int _) ov_ix)) tam_nil)))) tam_nil))) (tsm_seq (tsm_if (ttm_or (ttm_test (tem_op (tem_get1 (tem_frz (tem_meth rfl tam_nil)) (tev_var (i := 6))) (tem_lift (tev_var (i := 5))) ov_ne)) (ttm_lift (ttv_or (ttv_test (tev_op (tev_var (i := 6)) (tev_var (i := 2)) ov_in)) (ttv_test (tev_op (tev_var (i := 6)) (tev_cb (tav_cons (tev_op (tev_n (ten_cb (tav_cons (tev_var (i := 2)) tav_nil) cn_listD)) (tev_n (ten_lst (tav_cons (tev_un (tev_c fun _ => .int _) uv_neg) tav_nil))) ov_add) tav_nil) cb_max1) ov_le))))) (tsm_ret (tem_lift (tev_c fun _ => .bl _))) tsm_next) (tsm_seq (tsm_setP pld_var (tem_lift (tev_var (i := 4))) (tev_var (i := 6))) (tsm_seq (tsm_for (tim_lift (tif_enum (tav_cons (tev_call (qlen_cons (qlen_cons qlen_nil)) (tav_cons (tev_var (i := 4)) (tav_cons (tev_var (i := 5)) tav_nil))) tav_nil))) (tgq_tup (tgsq_cons tgq_name (tgsq_cons tgq_name tgsq_nil))) (tsm_setP pld_var (tem_lift (tev_tup (tav_cons (tev_var (i := 6)) (tav_cons (tev_var (i := 7)) tav_nil)))) (tev_var (i := 8)))) (tsm_ret (tem_lift (tev_c fun _ => .bl _)))))))), by decide⟩
theorem sc_Floor_looked_for : FnScope ["self", "t"] ["self", "t"] (defScope s_Floor_looked_for) := ⟨rfl, rfl, rfl, by decide +kernel, rfl, by decide +kernel, by decide +kernel⟩
noncomputable def m_Floor_looked_for : MS := (sIf (bLift (qB (qOp oNin (qVar 1) (qFld 0 0 "things")))) sNever sNext)
noncomputable def f_Floor_looked_for : List O → FR := defN 0 [true, false] m_Floor_looked_for
theorem ok_Floor_looked_for {f : Addr} {fd : FuncData} (Fc : Fct K cl mg) (F : FunD K "looked_for" "Floor.looked_for" (defArgs s_Floor_looked_for) (defBody s_Floor_looked_for) (defScope s_Floor_looked_for) [] [] f fd) (g : Meth K (cl 0) "looked_for" f) : MethG P w K mg base 1 (cl 0) "looked_for" (spM ⟨K, cl⟩ 2 f_Floor_looked_for) := by
  refine ⟨f, fd, ["self", "t"], ?_, Fc.c_Floor, g, F.bindsN fun _ _ _ _ _ _ us hl => match us, hl with | [_, _], _ => rfl⟩
  refine def_okN (io := [true, false]) (more := 0) (m := m_Floor_looked_for) F sc_Floor_looked_for rfl rfl ?_
  intro cdv A outer s H E hr
  exact ⟨_, _, (pss_one (ps_if (pt_cmpR (op_ninU hr.u65) (pv 1) (pe_fld (pv 0) rfl) (by with_unfolding_all rfl)) (pss_one ps_never) pss_nil)), (tsm_if (ttm_lift (ttv_test (tev_op (tev_var (i := 1)) (tev_fld Fc.c_Floor Fc.n_Floor_things) ov_nin))) tsm_never tsm_next), by decide⟩
theorem sc_Floor_leave : FnScope ["self", "t"] ["self", "t"] (defScope s_Floor_leave) := ⟨rfl, rfl, rfl, by decide +kernel, rfl, by decide +kernel, by decide +kernel⟩
noncomputable def m_Floor_leave : MS := (sSeq (sDrop (mMeth 0 0 "looked_for" f_Floor_looked_for [none] (mCons (mLift (qVar 1)) mNil))) (sSeq (sIf (bLift (qB (qOp oIn (qVar 1) (qFld 0 0 "held")))) sNever sNext) (sSeq (sDrop (mPopP (gtF 0 0 "things") (stF 0 "things") (qVar 1))) (sDrop (mPopP (gtF 0 0 "own_places") (stF 0 "own_places") (qVar 1))))))
noncomputable def f_Floor_leave : List O → FR := defN 0 [true, false] m_Floor_leave
theorem ok_Floor_leave {f : Addr} {fd : FuncData} (Fc : Fct K cl mg) (F : FunD K "leave" "Floor.leave" (defArgs s_Floor_leave) (defBody s_Floor_leave) (defScope s_Floor_leave) [] [] f fd) (g : Meth K (cl 0) "leave" f) (c_Floor_looked_for : MethG P w K mg base 1 (cl 0) "looked_for" (spM ⟨K, cl⟩ 2 f_Floor_looked_for)) : MethG P w K mg base 2 (cl 0) "leave" (spM ⟨K, cl⟩ 2 f_Floor_leave) := by
  refine ⟨f, fd, ["self", "t"], ?_, Fc.c_Floor, g, F.bindsN fun _ _ _ _ _ _ us hl => match us, hl with | [_, _], _ => rfl⟩
  refine def_okN (io := [true, false]) (more := 0) (m := m_Floor_leave) F sc_Floor_leave rfl rfl ?_
  intro cdv A outer s H E hr
  exact ⟨_, _, (pss_cons (ps_expr (pe_mth c_Floor_looked_for hr (by decide) passL (pv 0) (pa_cons (pv 1) pa_nil))) (pss_cons (ps_if (pt_cmpR (op_inU hr.u65) (pv 1) (pe_fld (pv 0) rfl) (by with_unfolding_all rfl)) (pss_one ps_never) pss_nil) (pss_cons (ps_expr (pe_dpop1 (pe_fld (pv 0) rfl) (pv 1) ⟨rfl, rfl, rfl, rfl⟩)) (pss_one (ps_expr (pe_dpop1 (pe_fld (pv 0) rfl) (pv 1) ⟨rfl, rfl, rfl, rfl⟩)))))), (tsm_seq (tsm_drop (tem_meth rfl (tam_val (tem_lift (tev_var (i := 1))) tam_nil))) (tsm_seq (tsm_if (ttm_lift (ttv_test (tev_op (tev_var (i := 1)) (tev_fld Fc.c_Floor Fc.n_Floor_held) ov_in))) tsm_never tsm_next) (tsm_seq (tsm_drop (tem_popP (pld_fld Fc.c_Floor Fc.n_Floor_things) (tev_var (i := 1)))) (tsm_drop (tem_popP (pld_fld Fc.c_Floor Fc.n_Floor_own_places) (tev_var (i := 1))))))), by decide⟩
theorem sc_Floor_give : FnScope ["self", "t"] ["self", "t"] (defScope s_Floor_give) := ⟨rfl, rfl, rfl, by decide +kernel, rfl, by decide +kernel, by decide +kernel⟩
noncomputable def m_Floor_give : MS := (sSeq (sDrop (mMeth 0 0 "looked_for" f_Floor_looked_for [none] (mCons (mLift (qVar 1)) mNil))) (sSeq (sIf (bLift (qB (qOp oIn (qVar 1) (qFld 0 0 "held")))) sNever sNext) (sDrop (mMtF 0 0 "held" fAppend (qCons (qVar 1) qNil)))))
noncomputable def f_Floor_give : List O → FR := defN 0 [true, false] m_Floor_give
theorem ok_Floor_give {f : Addr} {fd : FuncData} (Fc : Fct K cl mg) (F : FunD K "give" "Floor.give" (defArgs s_Floor_give) (defBody s_Floor_give) (defScope s_Floor_give) [] [] f fd) (g : Meth K (cl 0) "give" f) (c_Floor_looked_for : MethG P w K mg base 1 (cl 0) "looked_for" (spM ⟨K, cl⟩ 2 f_Floor_looked_for)) : MethG P w K mg base 2 (cl 0) "give" (spM ⟨K, cl⟩ 2 f_Floor_give) := by
  refine ⟨f, fd, ["self", "t"], ?_, Fc.c_Floor, g, F.bindsN fun _ _ _ _ _ _ us hl => match us, hl with | [_, _], _ => rfl⟩
  refine def_okN (io := [true, false]) (more := 0) (m := m_Floor_give) F sc_Floor_give rfl rfl ?_
  intro cdv A outer s H E hr
  exact ⟨_, _, (pss_cons (ps_expr (pe_mth c_Floor_looked_for hr (by decide) passL (pv 0) (pa_cons (pv 1) pa_nil))) (pss_cons (ps_if (pt_cmpR (op_inU hr.u65) (pv 1) (pe_fld (pv 0) rfl) (by with_unfolding_all rfl)) (pss_one ps_never) pss_nil) (pss_one (ps_expr (pe_bm PySem.F.plainAttrs_list PySem.F.slot_list_append PySem.F.type_list_append mt_append (pe_fld (pv 0) rfl) (pa_cons (pv 1) pa_nil)))))), (tsm_seq (tsm_drop (tem_meth rfl (tam_val (tem_lift (tev_var (i := 1))) tam_nil))) (tsm_seq (tsm_if (ttm_lift (ttv_test (tev_op (tev_var (i := 1)) (tev_fld Fc.c_Floor Fc.n_Floor_held) ov_in))) tsm_never tsm_next) (tsm_drop (tem_mtF Fc.c_Floor Fc.n_Floor_held (tav_cons (tev_var (i := 1)) tav_nil) lm_append)))), by decide⟩
theorem sc_Floor_back : FnScope ["self", "t"] ["self", "t"] (defScope s_Floor_back) := ⟨rfl, rfl, rfl, by decide +kernel, rfl, by decide +kernel, by decide +kernel⟩
noncomputable def m_Floor_back : MS := (sSeq (sDrop (mMeth 0 0 "looked_for" f_Floor_looked_for [none] (mCons (mLift (qVar 1)) mNil))) (sSeq (sIf (bLift (qB (qOp oNin (qVar 1) (qFld 0 0 "held")))) sNever sNext) (sDrop (mMtF 0 0 "held" fRem (qCons (qVar 1) qNil)))))
noncomputable def f_Floor_back : List O → FR := defN 0 [true, false] m_Floor_back
theorem ok_Floor_back {f : Addr} {fd : FuncData} (Fc : Fct K cl mg) (F : FunD K "back" "Floor.back" (defArgs s_Floor_back) (defBody s_Floor_back) (defScope s_Floor_back) [] [] f fd) (g : Meth K (cl 0) "back" f) (c_Floor_looked_for : MethG P w K mg base 1 (cl 0) "looked_for" (spM ⟨K, cl⟩ 2 f_Floor_looked_for)) : MethG P w K mg base 2 (cl 0) "back" (spM ⟨K, cl⟩ 2 f_Floor_back) := by
  refine ⟨f, fd, ["self", "t"], ?_, Fc.c_Floor, g, F.bindsN fun _ _ _ _ _ _ us hl => match us, hl with | [_, _], _ => rfl⟩
  refine def_okN (io := [true, false]) (more := 0) (m := m_Floor_back) F sc_Floor_back rfl rfl ?_
  intro cdv A outer s H E hr
  exact ⟨_, _, (pss_cons (ps_expr (pe_mth c_Floor_looked_for hr (by decide) passL (pv 0) (pa_cons (pv 1) pa_nil))) (pss_cons (ps_if (pt_cmpR (op_ninU hr.u65) (pv 1) (pe_fld (pv 0) rfl) (by with_unfolding_all rfl)) (pss_one ps_never) pss_nil) (pss_one (ps_expr (pe_bm PySem.F.plainAttrs_list PySem.F.slot_list_remove PySem.F.type_list_remove mt_remove (pe_fld (pv 0) rfl) (pa_cons (pv 1) pa_nil)))))), (tsm_seq (tsm_drop (tem_meth rfl (tam_val (tem_lift (tev_var (i := 1))) tam_nil))) (tsm_seq (tsm_if (ttm_lift (ttv_test (tev_op (tev_var (i := 1)) (tev_fld Fc.c_Floor Fc.n_Floor_held) ov_nin))) tsm_never tsm_next) (tsm_drop (tem_mtF Fc.c_Floor Fc.n_Floor_held (tav_cons (tev_var (i := 1)) tav_nil) lm_rem)))), by decide⟩
theorem sc_height_things : FnScope ["things", "places", "thing", "place"] ["things", "places"] (defScope s_height_things) := ⟨rfl, rfl, rfl, by decide +kernel, rfl, by decide +kernel, by decide +kernel⟩
noncomputable def m_height_things : MS := (sRet (mLift (qCbK oMaxD (qCons (qFz (qLc (qZipV (qCons (qVar 0) (qCons (qVar 1) qNil))) (fTup 2 (fCons (fName 2) (fCons (fName 3) fNil))) qYes (qCall (qOf f_end_of) (qCons (qVar 2) (qCons (qVar 3) qNil))) [2, 3])) qNil) (qCons (qC (.int 0)) qNil))))
noncomputable def f_height_things : List O → FR := defN 2 [false, false] m_height_things
theorem ok_height_things {f : Addr} {fd : FuncData} (Fc : Fct K cl mg) (F : FunD K "height" "height" (defArgs s_height_things) (defBody s_height_things) (defScope s_height_things) [] [] f fd) (g : mg "height_things" = some (.ref f)) (c_end_of : CalG P w K mg base 1 "end_of" (spM ⟨K, cl⟩ 2 f_end_of)) : CalG P w K mg base 2 "height_things" (spM ⟨K, cl⟩ 2 f_height_things) := by
  refine ⟨f, fd, ["things", "places"], ?_, g, F.kp, F.bindsN fun _ _ _ _ _ _ us hl => match us, hl with | [_, _], _ => rfl⟩
  refine def_okN (io := [false, false]) (more := 2) (m := m_height_things) F sc_height_things rfl rfl ?_
  intro cdv A outer s H E hr
  exact ⟨_, _, (pss_one (ps_ret (pe_callBK (cr_maxD rfl hr.u1) rfl Fc.f_max (by rfl) (pa_cons (pe_lc (own := [("thing", 2), ("place", 3)]) rfl sc_height_things.nd (pi_zipM rfl Fc.f_zip (pa_cons (pv 0) (pa_cons (pv 1) pa_nil))) (blkOk_by (N := ["things", "places", "thing", "place"]) (sc := defScope s_height_things) (own := [("thing", 2), ("place", 3)]) (by decide +kernel)) (fun _ _ _ _ _ => (pg_tup rfl (pgs_cons (pg_name (i := 2) sc_height_things.nd rfl (.inl rfl)) (pgs_cons (pg_name (i := 3) sc_height_things.nd rfl (.inl rfl)) pgs_nil)))) (fun _ _ _ _ _ => pts_nil) (fun _ _ _ _ _ => (pe_g c_end_of.quiet hr (by decide) passL rfl (pa_cons (pv 2) (pa_cons (pv 3) pa_nil))))) pa_nil) (pk_cons pe_int pk_nil)))), (tsm_ret (tem_lift (tev_maxD (tav_cons (tev_n (ten_lc (tiv_zip (tav_cons (tev_var (i := 0)) (tav_cons (tev_var (i := 1)) tav_nil))) (tgq_tup (tgsq_cons tgq_name (tgsq_cons tgq_name tgsq_nil))) (by decide) ttv_yes (tev_call (qlen_cons (qlen_cons qlen_nil)) (tav_cons (tev_var (i := 2)) (tav_cons (tev_var (i := 3)) tav_nil))))) tav_nil) (tav_cons (tev_c fun _ => .int _) tav_nil)))), by decide⟩
theorem sc_Floor_height : FnScope ["self", "numbers", "t"] ["self"] (defScope s_Floor_height) := ⟨rfl, rfl, rfl, by decide +kernel, rfl, by decide +kernel, by decide +kernel⟩
noncomputable def m_Floor_height : MS := (sSeq (sSet 1 (mLift (qFz (qCb oListD (qCons (qFld 0 0 "things") qNil))))) (sRet (mLift (qCall (qOf f_height_things) (qCons (qFz (qLc (qItA (qVar 1)) (fName 2) qYes (qOp oIx (qFld 0 0 "things") (qVar 2)) [2])) (qCons (qFz (qLc (qItA (qVar 1)) (fName 2) qYes (qOp oIx (qFld 0 0 "own_places") (qVar 2)) [2])) qNil))))))
noncomputable def f_Floor_height : List O → FR := defN 2 [true] m_Floor_height
theorem ok_Floor_height {f : Addr} {fd : FuncData} (Fc : Fct K cl mg) (F : FunD K "height" "Floor.height" (defArgs s_Floor_height) (defBody s_Floor_height) (defScope s_Floor_height) [] [] f fd) (g : Meth K (cl 0) "height" f) (c_height_things : CalG P w K mg base 2 "height_things" (spM ⟨K, cl⟩ 2 f_height_things)) : MethG P w K mg base 3 (cl 0) "height" (spM ⟨K, cl⟩ 1 f_Floor_height) := by
  refine ⟨f, fd, ["self"], ?_, Fc.c_Floor, g, F.bindsN fun _ _ _ _ _ _ us hl => match us, hl with | [_], _ => rfl⟩
  refine def_okN (io := [true]) (more := 2) (m := m_Floor_height) F sc_Floor_height rfl rfl ?_
  intro cdv A outer s H E hr
  exact ⟨_, _, (pss_cons (ps_set (i := 1) sc_Floor_height.nd rfl (.inl rfl) (pe_callTy (cr_listD rfl) rfl Fc.f_list (by rfl) (pa_cons (pe_fld (pv 0) rfl) pa_nil))) (pss_one (ps_ret (pe_g c_height_things.quiet hr (by decide) passL rfl (pa_cons (pe_lc (own := [("t", 2)]) rfl sc_Floor_height.nd (pi_any (pv 1)) (blkOk_by (N := ["self", "numbers", "t"]) (sc := defScope s_Floor_height) (own := [("t", 2)]) (by decide +kernel)) (fun _ _ _ _ _ => (pg_name (i := 2) sc_Floor_height.nd rfl (.inl rfl))) (fun _ _ _ _ _ => pts_nil) (fun _ _ _ _ _ => (pe_ix (ix_U hr.u1) (pe_fld (pv 0) rfl) (pv 2) (fun _ _ => rfl)))) (pa_cons (pe_lc (own := [("t", 2)]) rfl sc_Floor_height.nd (pi_any (pv 1)) (blkOk_by (N := ["self", "numbers", "t"]) (sc := defScope s_Floor_height) (own := [("t", 2)]) (by decide +kernel)) (fun _ _ _ _ _ => (pg_name (i := 2) sc_Floor_height.nd rfl (.inl rfl))) (fun _ _ _ _ _ => pts_nil) (fun _ _ _ _ _ => (pe_ix (ix_U hr.u1) (pe_fld (pv 0) rfl) (pv 2) (fun _ _ => rfl)))) pa_nil)))))), (tsm_seq (tsm_set (tem_lift (tev_n (ten_cb (tav_cons (tev_fld Fc.c_Floor Fc.n_Floor_things) tav_nil) cn_listD)))) (tsm_ret (tem_lift (tev_call (qlen_cons (qlen_cons qlen_nil)) (tav_cons (tev_n (ten_lc (tiv_any (tev_var (i := 1))) tgq_name (by decide) ttv_yes (tev_op (tev_fld Fc.c_Floor Fc.n_Floor_things) (tev_var (i := 2)) ov_ix))) (tav_cons (tev_n (ten_lc (tiv_any (tev_var (i := 1))) tgq_name (by decide) ttv_yes (tev_op (tev_fld Fc.c_Floor Fc.n_Floor_own_places) (tev_var (i := 2)) ov_ix))) tav_nil)))))), by decide⟩
theorem sc_Floor_placed_anew : FnScope ["self", "found", "t", "others", "size", "other"] ["self"] (defScope s_Floor_placed_anew) := ⟨rfl, rfl, rfl, by decide +kernel, rfl, by decide +kernel, by decide +kernel⟩
noncomputable def m_Floor_placed_anew : MS := (sSeq (sSet 1 (mNew (qCb oDictI (qCons (qFz (qLc (qItA (qFld 0 0 "held")) (fName 2) qYes (qTup (qCons (qVar 2) (qCons (qOp oIx (qFld 0 0 "own_places") (qVar 2)) qNil))) [2])) qNil)))) (sSeq (sSet 3 (mLift (qFz (qTmpN (qLc (qKeysF (qFld 0 0 "things")) (fName 2) (qB (qOp oNin (qVar 2) (qFld 0 0 "held"))) (qVar 2) [2]))))) (sSeq (sFor (iLift (qIfA (qFz (qCb oSortV (qCons (qFz (qLc (qItA (qVar 3)) (fName 2) qYes (qTup (qCons (qUn oNeg (qOp oIx (qOp oIx (qFld 0 0 "things") (qVar 2)) (qC (.int 0)))) (qCons (qVar 2) qNil))) [2])) qNil))))) (fTup 2 (fCons (fName 4) (fCons (fName 2) fNil))) (sSetU 1 (qVar 2) (mLift (qCall (qOf f_least_place) (qCons (qOp oIx (qFld 0 0 "things") (qVar 2)) (qCons (qFz (qTmpN (qLc (qKeysF (qVar 1)) (fName 5) qYes (qTup (qCons (qOp oIx (qFld 0 0 "things") (qVar 5)) (qCons (qOp oIx (qVar 1) (qVar 5)) qNil))) [5]))) qNil)))))) (sRet (mMove 1)))))
noncomputable def f_Floor_placed_anew : List O → FR := defN 5 [true] m_Floor_placed_anew
theorem ok_Floor_placed_anew {f : Addr} {fd : FuncData} (Fc : Fct K cl mg) (F : FunD K "placed_anew" "Floor.placed_anew" (defArgs s_Floor_placed_anew) (defBody s_Floor_placed_anew) (defScope s_Floor_placed_anew) [] [] f fd) (g : Meth K (cl 0) "placed_anew" f) (c_least_place : CalG P w K mg base 3 "least_place" (spM ⟨K, cl⟩ 2 f_least_place)) : MethG P w K mg base 4 (cl 0) "placed_anew" (spM ⟨K, cl⟩ 1 f_Floor_placed_anew) := by
  refine ⟨f, fd, ["self"], ?_, Fc.c_Floor, g, F.bindsN fun _ _ _ _ _ _ us hl => match us, hl with | [_], _ => rfl⟩
  refine def_okN (io := [true]) (more := 5) (m := m_Floor_placed_anew) F sc_Floor_placed_anew rfl rfl ?_
  intro cdv A outer s H E hr
  exact ⟨_, _, (pss_cons (ps_set (i := 1) sc_Floor_placed_anew.nd rfl (.inr rfl) (pe_callTy (cr_dictP rfl) rfl Fc.f_dict (by rfl) (pa_cons (pe_lc (own := [("t", 2)]) rfl sc_Floor_placed_anew.nd (pi_any (pe_fld (pv 0) rfl)) (blkOk_by (N := ["self", "found", "t", "others", "size", "other"]) (sc := defScope s_Floor_placed_anew) (own := [("t", 2)]) (by decide +kernel)) (fun _ _ _ _ _ => (pg_name (i := 2) sc_Floor_placed_anew.nd rfl (.inl rfl))) (fun _ _ _ _ _ => pts_nil) (fun _ _ _ _ _ => (pe_tup (pa_cons (pv 2) (pa_cons (pe_ix (ix_U hr.u1) (pe_fld (pv 0) rfl) (pv 2) (fun _ _ => rfl)) pa_nil))))) pa_nil))) (pss_cons (ps_setLcF (i := 3) (own := [("t", 2)]) rfl sc_Floor_placed_anew.nd rfl rfl (sw_true rfl rfl rfl (by decide +kernel)) (pi_keys (pe_fld (pv 0) rfl)) (blkOk_by (N := ["self", "found", "t", "others", "size", "other"]) (sc := defScope s_Floor_placed_anew) (own := [("t", 2)]) (by decide +kernel)) (fun _ _ _ _ _ => (pg_name (i := 2) sc_Floor_placed_anew.nd rfl (.inl rfl))) (fun _ _ _ _ _ => pts_one (pt_cmpR (op_ninU hr.u65) (pv 2) (pe_fld (pv 0) rfl) (by with_unfolding_all rfl))) (fun _ _ _ _ _ => (pv 2))) (pss_cons (ps_for PassesOwn.never rfl (pi_any (pe_callB (cr_sortedV rfl hr.u64) rfl Fc.f_sorted (by rfl) (pa_cons (pe_lc (own := [("t", 2)]) rfl sc_Floor_placed_anew.nd (pi_any (pv 3)) (blkOk_by (N := ["self", "found", "t", "others", "size", "other"]) (sc := defScope s_Floor_placed_anew) (own := [("t", 2)]) (by decide +kernel)) (fun _ _ _ _ _ => (pg_name (i := 2) sc_Floor_placed_anew.nd rfl (.inl rfl))) (fun _ _ _ _ _ => pts_nil) (fun _ _ _ _ _ => (pe_tup (pa_cons (pe_un un_neg (pe_ix (ix_U hr.u1) (pe_ix (ix_U hr.u1) (pe_fld (pv 0) rfl) (pv 2) (fun _ _ => rfl)) pe_int (fun _ _ => rfl))) (pa_cons (pv 2) pa_nil))))) pa_nil))) (pg_tup rfl (pgs_cons (pg_name (i := 4) sc_Floor_placed_anew.nd rfl (.inl rfl)) (pgs_cons (pg_name (i := 2) sc_Floor_placed_anew.nd rfl (.inl rfl)) pgs_nil))) (pss_one (ps_asg (pe_g c_least_place.quiet hr (by decide) passL rfl (pa_cons (pe_ix (ix_U hr.u1) (pe_fld (pv 0) rfl) (pv 2) (fun _ _ => rfl)) (pa_cons (pe_lcF (own := [("other", 5)]) rfl sc_Floor_placed_anew.nd (pi_keys (pv 1)) (blkOk_by (N := ["self", "found", "t", "others", "size", "other"]) (sc := defScope s_Floor_placed_anew) (own := [("other", 5)]) (by decide +kernel)) (fun _ _ _ _ _ => (pg_name (i := 5) sc_Floor_placed_anew.nd rfl (.inl rfl))) (fun _ _ _ _ _ => pts_nil) (fun _ _ _ _ _ => (pe_tup (pa_cons (pe_ix (ix_U hr.u1) (pe_fld (pv 0) rfl) (pv 5) (fun _ _ => rfl)) (pa_cons (pe_ix (ix_U hr.u1) (pv 1) (pv 5) (fun _ _ => rfl)) pa_nil))))) pa_nil))) (pg_sub (pv 1) (pv 2) (set_U hr.u1))))) (pss_one (ps_ret (pv 1)))))), (tsm_seq (tsm_set (tem_new (ten_cb (tav_cons (tev_n (ten_lc (tiv_any (tev_fld Fc.c_Floor Fc.n_Floor_held)) tgq_name (by decide) ttv_yes (tev_tup (tav_cons (tev_var (i := 2)) (tav_cons (tev_op (tev_fld Fc.c_Floor Fc.n_Floor_own_places) (tev_var (i := 2)) ov_ix) tav_nil))))) tav_nil) cn_dictI))) (tsm_seq (tsm_set (tem_lift (tev_n (ten_tmpN (ten_lcF (trd_fld Fc.c_Floor Fc.n_Floor_things) tgq_name (by decide) (ttv_test (tev_op (tev_var (i := 2)) (tev_fld Fc.c_Floor Fc.n_Floor_held) ov_nin)) (tev_var (i := 2))))))) (tsm_seq (tsm_for (tim_lift (tif_any (tev_n (ten_cb (tav_cons (tev_n (ten_lc (tiv_any (tev_var (i := 3))) tgq_name (by decide) ttv_yes (tev_tup (tav_cons (tev_un (tev_op (tev_op (tev_fld Fc.c_Floor Fc.n_Floor_things) (tev_var (i := 2)) ov_ix) (tev_c fun _ => .int _) ov_ix) uv_neg) (tav_cons (tev_var (i := 2)) tav_nil))))) tav_nil) cn_sortV)))) (tgq_tup (tgsq_cons tgq_name (tgsq_cons tgq_name tgsq_nil))) (tsm_setU (tem_lift (tev_call (qlen_cons (qlen_cons qlen_nil)) (tav_cons (tev_op (tev_fld Fc.c_Floor Fc.n_Floor_things) (tev_var (i := 2)) ov_ix) (tav_cons (tev_n (ten_tmpN (ten_lcF trd_var tgq_name (by decide) ttv_yes (tev_tup (tav_cons (tev_op (tev_fld Fc.c_Floor Fc.n_Floor_things) (tev_var (i := 5)) ov_ix) (tav_cons (tev_op (tev_var (i := 1)) (tev_var (i := 5)) ov_ix) tav_nil)))))) tav_nil)))) (tev_var (i := 2)))) (tsm_ret tem_move)))), by decide⟩
theorem sc_is_free : FnScope ["things", "places", "t", "place", "other", "there"] ["things", "places", "t", "place"] (defScope s_is_free) := ⟨rfl, rfl, rfl, by decide +kernel, rfl, by decide +kernel, by decide +kernel⟩
noncomputable def m_is_free : MS := (sSeq (sFor (iLift (qEnum (qCons (qVar 1) qNil))) (fTup 2 (fCons (fName 4) (fCons (fName 5) fNil))) (sIf (bLift (qAnd (qB (qOp oNe (qVar 4) (qVar 2))) (qB (qCall (qOf f_lie_over) (qCons (qOp oIx (qVar 0) (qVar 2)) (qCons (qVar 3) (qCons (qOp oIx (qVar 0) (qVar 4)) (qCons (qVar 5) qNil)))))))) (sRet (mLift (qC (.bool false)))) sNext)) (sRet (mLift (qC (.bool true)))))
noncomputable def f_is_free : List O → FR := defN 2 [false, false, false, false] m_is_free
theorem ok_is_free {f : Addr} {fd : FuncData} (Fc : Fct K cl mg) (F : FunD K "is_free" "is_free" (defArgs s_is_free) (defBody s_is_free) (defScope s_is_free) [] [] f fd) (g : mg "is_free" = some (.ref f)) (c_lie_over : CalG P w K mg base 2 "lie_over" (spM ⟨K, cl⟩ 4 f_lie_over)) : CalG P w K mg base 3 "is_free" (spM ⟨K, cl⟩ 4 f_is_free) := by
  refine ⟨f, fd, ["things", "places", "t", "place"], ?_, g, F.kp, F.bindsN fun _ _ _ _ _ _ us hl => match us, hl with | [_, _, _, _], _ => rfl⟩
  refine def_okN (io := [false, false, false, false]) (more := 2) (m := m_is_free) F sc_is_free rfl rfl ?_
  intro cdv A outer s H E hr
  exact ⟨_, _, (pss_cons (ps_for PassesOwn.never rfl (pi_enum rfl Fc.f_enumerate (pa_cons (pv 1) pa_nil)) (pg_tup rfl (pgs_cons (pg_name (i := 4) sc_is_free.nd rfl (.inl rfl)) (pgs_cons (pg_name (i := 5) sc_is_free.nd rfl (.inl rfl)) pgs_nil))) (pss_one (ps_if (PW.pt (pw_and (pt_cmpR (op_neU hr.u64) (pv 4) (pv 2) (nomark _)) (pw_and1 (pt_val (pe_g c_lie_over.quiet hr (by decide) passL rfl (pa_cons (pe_ix (ix_U hr.u1) (pv 0) (pv 2) (fun _ _ => rfl)) (pa_cons (pv 3) (pa_cons (pe_ix (ix_U hr.u1) (pv 0) (pv 4) (fun _ _ => rfl)) (pa_cons (pv 5) pa_nil))))))))) (pss_one (ps_ret pe_bl)) pss_nil))) (pss_one (ps_ret pe_bl))), (tsm_seq (tsm_for (tim_lift (tif_enum (tav_cons (tev_var (i := 1)) tav_nil))) (tgq_tup (tgsq_cons tgq_name (tgsq_cons tgq_name tgsq_nil))) (tsm_if (ttm_lift (ttv_and (ttv_test (tev_op (tev_var (i := 4)) (tev_var (i := 2)) ov_ne)) (ttv_B (tev_call (qlen_cons (qlen_cons (qlen_cons (qlen_cons qlen_nil)))) (tav_cons (tev_op (tev_var (i := 0)) (tev_var (i := 2)) ov_ix) (tav_cons (tev_var (i := 3)) (tav_cons (tev_op (tev_var (i := 0)) (tev_var (i := 4)) ov_ix) (tav_cons (tev_var (i := 5)) tav_nil)))))))) (tsm_ret (tem_lift (tev_c fun _ => .bl _))) tsm_next)) (tsm_ret (tem_lift (tev_c fun _ => .bl _)))), by decide⟩
theorem sc_next_move : FnScope ["things", "places", "news", "aside", "waiting", "t", "above"] ["things", "places", "news", "aside"] (defScope s_next_move) := ⟨rfl, rfl, rfl, by decide +kernel, rfl, by decide +kernel, by decide +kernel⟩
noncomputable def m_next_move : MS := (sSeq (sSet 4 (mLift (qFz (qLc (qRng1 (qCons (qCb oLen (qCons (qVar 0) qNil)) qNil)) (fName 5) (qB (qOp oNe (qOp oIx (qVar 1) (qVar 5)) (qOp oIx (qVar 2) (qVar 5)))) (qVar 5) [5])))) (sSeq (sFor (iLift (qIfA (qVar 4))) (fName 5) (sIf (bLift (qB (qCall (qOf f_is_free) (qCons (qVar 0) (qCons (qVar 1) (qCons (qVar 5) (qCons (qOp oIx (qVar 2) (qVar 5)) qNil))))))) (sRet (mLift (qTup (qCons (qVar 5) (qCons (qOp oIx (qVar 2) (qVar 5)) qNil))))) sNext)) (sSeq (sSet 5 (mLift (qOp oIx (qFz (qLc (qItA (qVar 4)) (fName 5) (qB (qOp oNin (qVar 5) (qVar 3))) (qVar 5) [5])) (qC (.int 0))))) (sSeq (sSet 6 (mLift (qCb oMax2 (qCons (qCall (qOf f_height_things) (qCons (qVar 0) (qCons (qVar 1) qNil))) (qCons (qCall (qOf f_height_things) (qCons (qVar 0) (qCons (qVar 2) qNil))) qNil))))) (sRet (mLift (qTup (qCons (qVar 5) (qCons (qCall (qOf f_rounded) (qCons (qVar 6) (qCons (qOp oIx (qOp oIx (qVar 0) (qVar 5)) (qC (.int 1))) qNil))) qNil)))))))))
noncomputable def f_next_move : List O → FR := defN 3 [false, false, false, false] m_next_move
theorem ok_next_move {f : Addr} {fd : FuncData} (Fc : Fct K cl mg) (F : FunD K "next_move" "next_move" (defArgs s_next_move) (defBody s_next_move) (defScope s_next_move) [] [] f fd) (g : mg "next_move" = some (.ref f)) (c_is_free : CalG P w K mg base 3 "is_free" (spM ⟨K, cl⟩ 4 f_is_free)) (c_height_things : CalG P w K mg base 2 "height_things" (spM ⟨K, cl⟩ 2 f_height_things)) (c_rounded : CalG P w K mg base 1 "rounded" (spM ⟨K, cl⟩ 2 f_rounded)) : CalG P w K mg base 4 "next_move" (spM ⟨K, cl⟩ 4 f_next_move) := by
  refine ⟨f, fd, ["things", "places", "news", "aside"], ?_, g, F.kp, F.bindsN fun _ _ _ _ _ _ us hl => match us, hl with | [_, _, _, _], _ => rfl⟩
  refine def_okN (io := [false, false, false, false]) (more := 3) (m := m_next_move) F sc_next_move rfl rfl ?_
  intro cdv A outer s H E hr
  exact ⟨_, _, (pss_cons (ps_setLc (i := 4) (own := [("t", 5)]) rfl sc_next_move.nd rfl rfl (sw_true rfl rfl rfl (by decide +kernel)) (pi_range1 rfl Fc.f_range (pa_cons (pe_callB call_lenU rfl Fc.f_len (by rfl) (pa_cons (pv 0) pa_nil)) pa_nil)) (blkOk_by (N := ["things", "places", "news", "aside", "waiting", "t", "above"]) (sc := defScope s_next_move) (own := [("t", 5)]) (by decide +kernel)) (fun _ _ _ _ _ => (pg_name (i := 5) sc_next_move.nd rfl (.inl rfl))) (fun _ _ _ _ _ => pts_one (pt_cmpR (op_neU hr.u64) (pe_ix (ix_U hr.u1) (pv 1) (pv 5) (fun _ _ => rfl)) (pe_ix (ix_U hr.u1) (pv 2) (pv 5) (fun _ _ => rfl)) (nomark _))) (fun _ _ _ _ _ => (pv 5))) (pss_cons (ps_for PassesOwn.never rfl (pi_any (pv 4)) (pg_name (i := 5) sc_next_move.nd rfl (.inl rfl)) (pss_one (ps_if (pt_val (pe_g c_is_free.quiet hr (by decide) passL rfl (pa_cons (pv 0) (pa_cons (pv 1) (pa_cons (pv 5) (pa_cons (pe_ix (ix_U hr.u1) (pv 2) (pv 5) (fun _ _ => rfl)) pa_nil)))))) (pss_one (ps_ret (pe_tup (pa_cons (pv 5) (pa_cons (pe_ix (ix_U hr.u1) (pv 2) (pv 5) (fun _ _ => rfl)) pa_nil))))) pss_nil))) (pss_cons (ps_set (i := 5) sc_next_move.nd rfl (.inl rfl) (pe_ix (ix_U hr.u1) (pe_lc (own := [("t", 5)]) rfl sc_next_move.nd (pi_any (pv 4)) (blkOk_by (N := ["things", "places", "news", "aside", "waiting", "t", "above"]) (sc := defScope s_next_move) (own := [("t", 5)]) (by decide +kernel)) (fun _ _ _ _ _ => (pg_name (i := 5) sc_next_move.nd rfl (.inl rfl))) (fun _ _ _ _ _ => pts_one (pt_cmpR (op_ninU hr.u65) (pv 5) (pv 3) (by with_unfolding_all rfl))) (fun _ _ _ _ _ => (pv 5))) pe_int (fun _ _ => rfl))) (pss_cons (ps_set (i := 6) sc_next_move.nd rfl (.inl rfl) (pe_callB (call_max2 rfl) rfl Fc.f_max (by rfl) (pa_cons (pe_g c_height_things.quiet hr (by decide) passL rfl (pa_cons (pv 0) (pa_cons (pv 1) pa_nil))) (pa_cons (pe_g c_height_things.quiet hr (by decide) passL rfl (pa_cons (pv 0) (pa_cons (pv 2) pa_nil))) pa_nil)))) (pss_one (ps_ret (pe_tup (pa_cons (pv 5) (pa_cons (pe_g c_rounded.quiet hr (by decide) passL rfl (pa_cons (pv 6) (pa_cons (pe_ix (ix_U hr.u1) (pe_ix (ix_U hr.u1) (pv 0) (pv 5) (fun _ _ => rfl)) pe_int (fun _ _ => rfl)) pa_nil))) pa_nil))))))))), (tsm_seq (tsm_set (tem_lift (tev_n (ten_lc (TIf.v (tif_rng1 (tav_cons (tev_cb (tav_cons (tev_var (i := 0)) tav_nil) cb_len) tav_nil))) tgq_name (by decide) (ttv_test (tev_op (tev_op (tev_var (i := 1)) (tev_var (i := 5)) ov_ix) (tev_op (tev_var (i := 2)) (tev_var (i := 5)) ov_ix) ov_ne)) (tev_var (i := 5)))))) (tsm_seq (tsm_for (tim_lift (tif_any (tev_var (i := 4)))) tgq_name (tsm_if (ttm_lift (ttv_B (tev_call (qlen_cons (qlen_cons (qlen_cons (qlen_cons qlen_nil)))) (tav_cons (tev_var (i := 0)) (tav_cons (tev_var (i := 1)) (tav_cons (tev_var (i := 5)) (tav_cons (tev_op (tev_var (i := 2)) (tev_var (i := 5)) ov_ix) tav_nil))))))) (tsm_ret (tem_lift (tev_tup (tav_cons (tev_var (i := 5)) (tav_cons (tev_op (tev_var (i := 2)) (tev_var (i := 5)) ov_ix) tav_nil))))) tsm_next)) (tsm_seq (tsm_set (tem_lift (tev_op (tev_n (ten_lc (tiv_any (tev_var (i := 4))) tgq_name (by decide) (ttv_test (tev_op (tev_var (i := 5)) (tev_var (i := 3)) ov_nin)) (tev_var (i := 5)))) (tev_c fun _ => .int _) ov_ix))) (tsm_seq (tsm_set (tem_lift (tev_cb (tav_cons (tev_call (qlen_cons (qlen_cons qlen_nil)) (tav_cons (tev_var (i := 0)) (tav_cons (tev_var (i := 1)) tav_nil))) (tav_cons (tev_call (qlen_cons (qlen_cons qlen_nil)) (tav_cons (tev_var (i := 0)) (tav_cons (tev_var (i := 2)) tav_nil))) tav_nil)) cb_max2))) (tsm_ret (tem_lift (tev_tup (tav_cons (tev_var (i := 5)) (tav_cons (tev_call (qlen_cons (qlen_cons qlen_nil)) (tav_cons (tev_var (i := 6)) (tav_cons (tev_op (tev_op (tev_var (i := 0)) (tev_var (i := 5)) ov_ix) (tev_c fun _ => .int _) ov_ix) tav_nil))) tav_nil))))))))), by decide⟩
theorem sc_moves : FnScope ["things", "olds", "news", "places", "found", "aside", "t", "place"] ["things", "olds", "news"] (defScope s_moves) := ⟨rfl, rfl, rfl, by decide +kernel, rfl, by decide +kernel, by decide +kernel⟩
noncomputable def m_moves : MS := (sSeq (sPar3 3 4 5 (mCons (mNew (qCb oList (qCons (qVar 1) qNil))) (mCons (mNew (qLst qNil)) (mCons (mNew (qLst qNil)) mNil)))) (sSeq (sWhile (bLift (qB (qOp oNe (qVar 3) (qVar 2)))) (sSeq (sAsg (fTup 2 (fCons (fName 6) (fCons (fName 7) fNil))) (mLift (qCall (qOf f_next_move) (qCons (qVar 0) (qCons (qVar 3) (qCons (qVar 2) (qCons (qVar 5) qNil))))))) (sSeq (sIf (bLift (qB (qOp oNe (qVar 7) (qOp oIx (qVar 2) (qVar 6))))) (sDrop (mMt 5 fAppend (mCons (mLift (qVar 6)) mNil))) sNext) (sSeq (sSetU 3 (qVar 6) (mLift (qVar 7))) (sDrop (mMt 4 fAppend (mCons (mLift (qTup (qCons (qVar 6) (qCons (qVar 7) qNil)))) mNil))))))) (sRet (mMove 4))))
noncomputable def f_moves : List O → FR := defN 5 [false, false, false] m_moves
theorem ok_moves {f : Addr} {fd : FuncData} (Fc : Fct K cl mg) (F : FunD K "moves" "moves" (defArgs s_moves) (defBody s_moves) (defScope s_moves) [] [] f fd) (g : mg "moves" = some (.ref f)) (c_next_move : CalG P w K mg base 4 "next_move" (spM ⟨K, cl⟩ 4 f_next_move)) : CalG P w K mg base 5 "moves" (spM ⟨K, cl⟩ 3 f_moves) := by
  refine ⟨f, fd, ["things", "olds", "news"], ?_, g, F.kp, F.bindsN fun _ _ _ _ _ _ us hl => match us, hl with | [_, _, _], _ => rfl⟩
  refine def_okN (io := [false, false, false]) (more := 5) (m := m_moves) F sc_moves rfl rfl ?_
  intro cdv A outer s H E hr
  exact ⟨_, _, (pss_cons (ps_par3 (i := 3) (j := 4) (l := 5) rfl sc_moves.nd rfl rfl rfl (by decide) (by decide) (by decide) rfl rfl rfl (pa_cons (pe_callTy call_list_of rfl Fc.f_list (by rfl) (pa_cons (pv 1) pa_nil)) (pa_cons (pe_lst pa_nil) (pa_cons (pe_lst pa_nil) pa_nil))) rfl) (pss_cons (ps_while PassesOwn.never (pt_cmpR (op_neU hr.u64) (pv 3) (pv 2) (nomark _)) (pss_cons (ps_asg (pe_g c_next_move.quiet hr (by decide) passL rfl (pa_cons (pv 0) (pa_cons (pv 3) (pa_cons (pv 2) (pa_cons (pv 5) pa_nil))))) (pg_tup rfl (pgs_cons (pg_name (i := 6) sc_moves.nd rfl (.inl rfl)) (pgs_cons (pg_name (i := 7) sc_moves.nd rfl (.inl rfl)) pgs_nil)))) (pss_cons (ps_if (pt_cmpR (op_neU hr.u64) (pv 7) (pe_ix (ix_U hr.u1) (pv 2) (pv 6) (fun _ _ => rfl)) (nomark _)) (pss_one (ps_expr (pe_bm PySem.F.plainAttrs_list PySem.F.slot_list_append PySem.F.type_list_append mt_append (pv 5) (pa_cons (pv 6) pa_nil)))) pss_nil) (pss_cons (ps_asg (pv 7) (pg_sub (pv 3) (pv 6) (set_U hr.u1))) (pss_one (ps_expr (pe_bm PySem.F.plainAttrs_list PySem.F.slot_list_append PySem.F.type_list_append mt_append (pv 4) (pa_cons (pe_tup (pa_cons (pv 6) (pa_cons (pv 7) pa_nil))) pa_nil)))))))) (pss_one (ps_ret (pv 4))))), (tsm_seq (tsm_par3 (tam_val (tem_new (ten_cb (tav_cons (tev_var (i := 1)) tav_nil) cn_list)) (tam_val (tem_new (ten_lst tav_nil)) (tam_val (tem_new (ten_lst tav_nil)) tam_nil)))) (tsm_seq (tsm_while (ttm_lift (ttv_test (tev_op (tev_var (i := 3)) (tev_var (i := 2)) ov_ne))) (tsm_seq (tsm_asg (tgq_tup (tgsq_cons tgq_name (tgsq_cons tgq_name tgsq_nil))) (tem_lift (tev_call (qlen_cons (qlen_cons (qlen_cons (qlen_cons qlen_nil)))) (tav_cons (tev_var (i := 0)) (tav_cons (tev_var (i := 3)) (tav_cons (tev_var (i := 2)) (tav_cons (tev_var (i := 5)) tav_nil))))))) (tsm_seq (tsm_if (ttm_lift (ttv_test (tev_op (tev_var (i := 7)) (tev_op (tev_var (i := 2)) (tev_var (i := 6)) ov_ix) ov_ne))) (tsm_drop (tem_mt (tam_val (tem_lift (tev_var (i := 6))) tam_nil) lm_append)) tsm_next) (tsm_seq (tsm_setU (tem_lift (tev_var (i := 7))) (tev_var (i := 6))) (tsm_drop (tem_mt (tam_val (tem_lift (tev_tup (tav_cons (tev_var (i := 6)) (tav_cons (tev_var (i := 7)) tav_nil)))) tam_nil) lm_append)))))) (tsm_ret tem_move))), by decide⟩
theorem sc_Floor_regrow : FnScope ["self", "numbers", "news", "things", "t", "there", "told", "place"] ["self"] (defScope s_Floor_regrow) := ⟨rfl, rfl, rfl, by decide +kernel, rfl, by decide +kernel, by decide +kernel⟩
noncomputable def m_Floor_regrow : MS := (sSeq (sAsgM (tTup 2 (tCons2 (tName 1) (tCons2 (tName 2) tNil2))) (mTup (mCons (mLift (qFz (qCb oSortV (qCons (qFld 0 0 "things") qNil)))) (mCons (mMeth 0 0 "placed_anew" f_Floor_placed_anew [] mNil) mNil)))) (sSeq (sSet 3 (mLift (qCb oTuple (qCons (qFz (qLc (qItA (qVar 1)) (fName 4) qYes (qOp oIx (qFld 0 0 "things") (qVar 4)) [4])) qNil)))) (sSeq (sSet 5 (mLift (qFz (qLc (qItA (qVar 1)) (fName 4) qYes (qOp oIx (qVar 2) (qVar 4)) [4])))) (sSeq (sIf (bTest (mOp oGe (mLift (qCall (qOf f_height_things) (qCons (qVar 3) (qCons (qVar 5) qNil)))) (frzM (mMeth 0 0 "height" f_Floor_height [] mNil)))) (sRet (mNew (qLst qNil))) sNext) (sSeq (sSet 6 (mLift (qCall (qOf f_moves) (qCons (qVar 3) (qCons (qFz (qLc (qItA (qVar 1)) (fName 4) qYes (qOp oIx (qFld 0 0 "own_places") (qVar 4)) [4])) (qCons (qVar 5) qNil)))))) (sSeq (sSetF 0 0 "own_places" (mMove 2)) (sRet (mNew (qLc (qItA (qVar 6)) (fTup 2 (fCons (fName 4) (fCons (fName 7) fNil))) qYes (qTup (qCons (qOp oIx (qVar 1) (qVar 4)) (qCons (qVar 7) qNil))) [4, 7])))))))))
noncomputable def f_Floor_regrow : List O → FR := defN 7 [true] m_Floor_regrow
theorem ok_Floor_regrow {f : Addr} {fd : FuncData} (Fc : Fct K cl mg) (F : FunD K "regrow" "Floor.regrow" (defArgs s_Floor_regrow) (defBody s_Floor_regrow) (defScope s_Floor_regrow) [] [] f fd) (g : Meth K (cl 0) "regrow" f) (c_Floor_placed_anew : MethG P w K mg base 4 (cl 0) "placed_anew" (spM ⟨K, cl⟩ 1 f_Floor_placed_anew)) (c_height_things : CalG P w K mg base 2 "height_things" (spM ⟨K, cl⟩ 2 f_height_things)) (c_Floor_height : MethG P w K mg base 3 (cl 0) "height" (spM ⟨K, cl⟩ 1 f_Floor_height)) (c_moves : CalG P w K mg base 5 "moves" (spM ⟨K, cl⟩ 3 f_moves)) : MethG P w K mg base 6 (cl 0) "regrow" (spM ⟨K, cl⟩ 1 f_Floor_regrow) := by
  refine ⟨f, fd, ["self"], ?_, Fc.c_Floor, g, F.bindsN fun _ _ _ _ _ _ us hl => match us, hl with | [_], _ => rfl⟩
  refine def_okN (io := [true]) (more := 7) (m := m_Floor_regrow) F sc_Floor_regrow rfl rfl ?_
  intro cdv A outer s H E hr
  exact ⟨_, _, (pss_cons (ps_asg (pe_tup (pa_cons (pe_callB (cr_sortedV rfl hr.u64) rfl Fc.f_sorted (by rfl) (pa_cons (pe_fld (pv 0) rfl) pa_nil)) (pa_cons (pe_mth0 c_Floor_placed_anew hr (by decide) passL (pv 0)) pa_nil))) (pg_tup rfl (pgs_cons (pg_name (i := 1) sc_Floor_regrow.nd rfl (.inr rfl)) (pgs_cons (pg_name (i := 2) sc_Floor_regrow.nd rfl (.inr rfl)) pgs_nil)))) (pss_cons (ps_set (i := 3) sc_Floor_regrow.nd rfl (.inl rfl) (pe_callTy call_tuple_of rfl Fc.f_tuple (by rfl) (pa_cons (pe_lc (own := [("t", 4)]) rfl sc_Floor_regrow.nd (pi_any (pv 1)) (blkOk_by (N := ["self", "numbers", "news", "things", "t", "there", "told", "place"]) (sc := defScope s_Floor_regrow) (own := [("t", 4)]) (by decide +kernel)) (fun _ _ _ _ _ => (pg_name (i := 4) sc_Floor_regrow.nd rfl (.inl rfl))) (fun _ _ _ _ _ => pts_nil) (fun _ _ _ _ _ => (pe_ix (ix_U hr.u1) (pe_fld (pv 0) rfl) (pv 4) (fun _ _ => rfl)))) pa_nil))) (pss_cons (ps_setLc (i := 5) (own := [("t", 4)]) rfl sc_Floor_regrow.nd rfl rfl (sw_true rfl rfl rfl (by decide +kernel)) (pi_any (pv 1)) (blkOk_by (N := ["self", "numbers", "news", "things", "t", "there", "told", "place"]) (sc := defScope s_Floor_regrow) (own := [("t", 4)]) (by decide +kernel)) (fun _ _ _ _ _ => (pg_name (i := 4) sc_Floor_regrow.nd rfl (.inl rfl))) (fun _ _ _ _ _ => pts_nil) (fun _ _ _ _ _ => (pe_ix (ix_U hr.u1) (pv 2) (pv 4) (fun _ _ => rfl)))) (pss_cons (ps_if (pt_cmpR op_ge (pe_g c_height_things.quiet hr (by decide) passL rfl (pa_cons (pv 3) (pa_cons (pv 5) pa_nil))) (pe_mth0 c_Floor_height hr (by decide) passL (pv 0)) (nomark _)) (pss_one (ps_ret (pe_lst pa_nil))) pss_nil) (pss_cons (ps_set (i := 6) sc_Floor_regrow.nd rfl (.inl rfl) (pe_g c_moves.quiet hr (by decide) passL rfl (pa_cons (pv 3) (pa_cons (pe_lc (own := [("t", 4)]) rfl sc_Floor_regrow.nd (pi_any (pv 1)) (blkOk_by (N := ["self", "numbers", "news", "things", "t", "there", "told", "place"]) (sc := defScope s_Floor_regrow) (own := [("t", 4)]) (by decide +kernel)) (fun _ _ _ _ _ => (pg_name (i := 4) sc_Floor_regrow.nd rfl (.inl rfl))) (fun _ _ _ _ _ => pts_nil) (fun _ _ _ _ _ => (pe_ix (ix_U hr.u1) (pe_fld (pv 0) rfl) (pv 4) (fun _ _ => rfl)))) (pa_cons (pv 5) pa_nil))))) (pss_cons (ps_fld (pv 0) (pv 2) rfl) (pss_one (ps_ret (pe_lc (own := [("t", 4), ("place", 7)]) rfl sc_Floor_regrow.nd (pi_any (pv 6)) (blkOk_by (N := ["self", "numbers", "news", "things", "t", "there", "told", "place"]) (sc := defScope s_Floor_regrow) (own := [("t", 4), ("place", 7)]) (by decide +kernel)) (fun _ _ _ _ _ => (pg_tup rfl (pgs_cons (pg_name (i := 4) sc_Floor_regrow.nd rfl (.inl rfl)) (pgs_cons (pg_name (i := 7) sc_Floor_regrow.nd rfl (.inl rfl)) pgs_nil)))) (fun _ _ _ _ _ => pts_nil) (fun _ _ _ _ _ => (pe_tup (pa_cons (pe_ix (ix_U hr.u1) (pv 1) (pv 4) (fun _ _ => rfl)) (pa_cons (pv 7) pa_nil))))))))))))), (tsm_seq (tsm_asgM (tgm_tup (tgsm_cons tgm_name (tgsm_cons tgm_name tgsm_nil))) (tem_tup (tam_val (tem_lift (tev_n (ten_cb (tav_cons (tev_fld Fc.c_Floor Fc.n_Floor_things) tav_nil) cn_sortV))) (tam_val (tem_meth rfl tam_nil) tam_nil)))) (tsm_seq (tsm_set (tem_lift (tev_cb (tav_cons (tev_n (ten_lc (tiv_any (tev_var (i := 1))) tgq_name (by decide) ttv_yes (tev_op (tev_fld Fc.c_Floor Fc.n_Floor_things) (tev_var (i := 4)) ov_ix))) tav_nil) cb_tuple))) (tsm_seq (tsm_set (tem_lift (tev_n (ten_lc (tiv_any (tev_var (i := 1))) tgq_name (by decide) ttv_yes (tev_op (tev_var (i := 2)) (tev_var (i := 4)) ov_ix))))) (tsm_seq (tsm_if (ttm_test (tem_op (tem_lift (tev_call (qlen_cons (qlen_cons qlen_nil)) (tav_cons (tev_var (i := 3)) (tav_cons (tev_var (i := 5)) tav_nil)))) (tem_frz (tem_meth rfl tam_nil)) ov_ge)) (tsm_ret (tem_new (ten_lst tav_nil))) tsm_next) (tsm_seq (tsm_set (tem_lift (tev_call (qlen_cons (qlen_cons (qlen_cons qlen_nil))) (tav_cons (tev_var (i := 3)) (tav_cons (tev_n (ten_lc (tiv_any (tev_var (i := 1))) tgq_name (by decide) ttv_yes (tev_op (tev_fld Fc.c_Floor Fc.n_Floor_own_places) (tev_var (i := 4)) ov_ix))) (tav_cons (tev_var (i := 5)) tav_nil)))))) (tsm_seq (tsm_setF Fc.c_Floor Fc.n_Floor_own_places tem_move) (tsm_ret (tem_new (ten_lc (tiv_any (tev_var (i := 6))) (tgq_tup (tgsq_cons tgq_name (tgsq_cons tgq_name tgsq_nil))) (by decide) ttv_yes (tev_tup (tav_cons (tev_op (tev_var (i := 1)) (tev_var (i := 4)) ov_ix) (tav_cons (tev_var (i := 7)) tav_nil)))))))))))), by decide⟩
theorem sc__law_carried : FnScope ["_law_told", "_law_places", "_law_things", "_law_signs", "_law_t", "_law_place", "_law_old", "_law_k", "_law_room"] ["_law_told", "_law_places", "_law_things", "_law_signs"] (defScope s__law_carried) := ⟨rfl, rfl, rfl, by decide +kernel, rfl, by decide +kernel, by decide +kernel⟩
noncomputable def m__law_carried : MS := (sSeq (sSet 1 (mNew (qCb oDictC (qCons (qVar 1) qNil)))) (sSeq (sFor (iLift (qIfA (qVar 0))) (fTup 2 (fCons (fName 4) (fCons (fName 5) fNil))) (sSeq (sSet 6 (frzM (mLc (iLift (qIfA (qCall (qOf f__law_rooms) (qCons (qOp oIx (qVar 2) (qVar 4)) (qCons (qOp oIx (qVar 1) (qVar 4)) qNil))))) (fName 8) bYes (mPopP (gtV 3) (stV 3) (qVar 8)) [8]))) (sSeq (sFor (iLift (qEnum (qCons (qCall (qOf f__law_rooms) (qCons (qOp oIx (qVar 2) (qVar 4)) (qCons (qVar 5) qNil))) qNil))) (fTup 2 (fCons (fName 7) (fCons (fName 8) fNil))) (sSeq (sIf (bLift (qB (qOp oIn (qVar 8) (qVar 3)))) (sRet (mLift (qC (.bool false)))) sNext) (sSetP (gtV 3) (stV 3) (qVar 8) (mLift (qOp oIx (qVar 6) (qVar 7)))))) (sSetU 1 (qVar 4) (mLift (qVar 5)))))) (sRet (mLift (qC (.bool true))))))
noncomputable def f__law_carried : List O → FR := defN 5 [false, false, true, true] m__law_carried
theorem ok__law_carried {f : Addr} {fd : FuncData} (Fc : Fct K cl mg) (F : FunD K "_law_carried" "_law_carried" (defArgs s__law_carried) (defBody s__law_carried) (defScope s__law_carried) [] [] f fd) (g : mg "_law_carried" = some (.ref f)) (c__law_rooms : CalG P w K mg base 1 "_law_rooms" (spM ⟨K, cl⟩ 2 f__law_rooms)) : CalG P w K mg base 2 "_law_carried" (spM ⟨K, cl⟩ 4 f__law_carried) := by
  refine ⟨f, fd, ["_law_told", "_law_places", "_law_things", "_law_signs"], ?_, g, F.kp, F.bindsN fun _ _ _ _ _ _ us hl => match us, hl with | [_, _, _, _], _ => rfl⟩
  refine def_okN (io := [false, false, true, true]) (more := 5) (m := m__law_carried) F sc__law_carried rfl rfl ?_
  intro cdv A outer s H E hr
  exact ⟨_, _, (pss_cons (ps_set (i := 1) sc__law_carried.nd rfl (.inl rfl) (pe_callTy call_dictC rfl Fc.f_dict (by rfl) (pa_cons (pv 1) pa_nil))) (pss_cons (ps_for PassesOwn.never rfl (pi_any (pv 0)) (pg_tup rfl (pgs_cons (pg_name (i := 4) sc__law_carried.nd rfl (.inl rfl)) (pgs_cons (pg_name (i := 5) sc__law_carried.nd rfl (.inl rfl)) pgs_nil))) (pss_cons (ps_setLc (i := 6) (own := [("_law_room", 8)]) rfl sc__law_carried.nd rfl rfl (sw_true rfl rfl rfl (by decide +kernel)) (pi_any (pe_g c__law_rooms.quiet hr (by decide) passL rfl (pa_cons (pe_ix (ix_U hr.u1) (pv 2) (pv 4) (fun _ _ => rfl)) (pa_cons (pe_ix (ix_U hr.u1) (pv 1) (pv 4) (fun _ _ => rfl)) pa_nil)))) (blkOk_by (N := ["_law_told", "_law_places", "_law_things", "_law_signs", "_law_t", "_law_place", "_law_old", "_law_k", "_law_room"]) (sc := defScope s__law_carried) (own := [("_law_room", 8)]) (by decide +kernel)) (fun _ _ _ _ _ => (pg_name (i := 8) sc__law_carried.nd rfl (.inl rfl))) (fun _ _ _ _ _ => pts_nil) (fun _ _ _ _ _ => (pe_dpop1 (pv 3) (pv 8) ⟨rfl, rfl, rfl, rfl⟩))) (pss_cons (ps_for PassesOwn.never rfl (pi_enum rfl Fc.f_enumerate (pa_cons (pe_g c__law_rooms.quiet hr (by decide) passL rfl (pa_cons (pe_ix (ix_U hr.u1) (pv 2) (pv 4) (fun _ _ => rfl)) (pa_cons (pv 5) pa_nil))) pa_nil)) (pg_tup rfl (pgs_cons (pg_name (i := 7) sc__law_carried.nd rfl (.inl rfl)) (pgs_cons (pg_name (i := 8) sc__law_carried.nd rfl (.inl rfl)) pgs_nil))) (pss_cons (ps_if (pt_cmpR (op_inU hr.u65) (pv 8) (pv 3) (by with_unfolding_all rfl)) (pss_one (ps_ret pe_bl)) pss_nil) (pss_one (ps_asg (pe_ix (ix_U hr.u1) (pv 6) (pv 7) (fun _ _ => rfl)) (pg_sub (pv 3) (pv 8) (set_U hr.u1)))))) (pss_one (ps_asg (pv 5) (pg_sub (pv 1) (pv 4) (set_U hr.u1))))))) (pss_one (ps_ret pe_bl)))), (tsm_seq (tsm_set (tem_new (ten_cb (tav_cons (tev_var (i := 1)) tav_nil) cn_dict))) (tsm_seq (tsm_for (tim_lift (tif_any (tev_var (i := 0)))) (tgq_tup (tgsq_cons tgq_name (tgsq_cons tgq_name tgsq_nil))) (tsm_seq (tsm_set (tem_frz (tem_lc (tim_lift (tif_any (tev_call (qlen_cons (qlen_cons qlen_nil)) (tav_cons (tev_op (tev_var (i := 2)) (tev_var (i := 4)) ov_ix) (tav_cons (tev_op (tev_var (i := 1)) (tev_var (i := 4)) ov_ix) tav_nil))))) tgq_name (by decide) ttm_yes (tem_popP pld_var (tev_var (i := 8)))))) (tsm_seq (tsm_for (tim_lift (tif_enum (tav_cons (tev_call (qlen_cons (qlen_cons qlen_nil)) (tav_cons (tev_op (tev_var (i := 2)) (tev_var (i := 4)) ov_ix) (tav_cons (tev_var (i := 5)) tav_nil))) tav_nil))) (tgq_tup (tgsq_cons tgq_name (tgsq_cons tgq_name tgsq_nil))) (tsm_seq (tsm_if (ttm_lift (ttv_test (tev_op (tev_var (i := 8)) (tev_var (i := 3)) ov_in))) (tsm_ret (tem_lift (tev_c fun _ => .bl _))) tsm_next) (tsm_setP pld_var (tem_lift (tev_op (tev_var (i := 6)) (tev_var (i := 7)) ov_ix)) (tev_var (i := 8))))) (tsm_setU (tem_lift (tev_var (i := 5))) (tev_var (i := 4)))))) (tsm_ret (tem_lift (tev_c fun _ => .bl _))))), by decide⟩
theorem sc__law_regrown : FnScope ["_law_floor", "_law_things", "_law_signs", "_law_held", "_law_ahead", "_law_high", "_law_told", "_law_t", "_law_place"] ["_law_floor", "_law_things", "_law_signs", "_law_held"] (defScope s__law_regrown) := ⟨rfl, rfl, rfl, by decide +kernel, rfl, by decide +kernel, by decide +kernel⟩
noncomputable def m__law_regrown : MS := (sSeq (sPar 4 5 (mCons (frzM (mMeth 0 0 "places" f_Floor_places [] mNil)) (mCons (frzM (mMeth 0 0 "height" f_Floor_height [] mNil)) mNil))) (sSeq (sSet 6 (frzM (mMeth 0 0 "regrow" f_Floor_regrow [] mNil))) (sSeq (sIf (bLift (qB (qOp oEq (qVar 6) (qFz (qLst qNil))))) (sRet (mEqDV (mMeth 0 0 "places" f_Floor_places [] mNil) (qVar 4))) sNext) (sSeq (sIf (bOr (bLift (qB (qCb oAny (qCons (qFz (qLc (qItA (qVar 6)) (fTup 2 (fCons (fName 7) (fCons (fName 8) fNil))) qYes (qOp oIn (qVar 7) (qVar 3)) [7, 8])) qNil)))) (bNot (bTest (frzM (mCall f__law_carried [none, none, some 1, some 2] (mCons (mLift (qVar 6)) (mCons (mLift (qVar 4)) (mRef 1 (mRef 2 mNil))))))))) (sRet (mLift (qC (.bool false)))) sNext) (sRet (mOp oLt (frzM (mMeth 0 0 "height" f_Floor_height [] mNil)) (mLift (qVar 5))))))))
noncomputable def f__law_regrown : List O → FR := defN 5 [true, true, true, true] m__law_regrown
theorem ok__law_regrown {f : Addr} {fd : FuncData} (Fc : Fct K cl mg) (F : FunD K "_law_regrown" "_law_regrown" (defArgs s__law_regrown) (defBody s__law_regrown) (defScope s__law_regrown) [] [] f fd) (g : mg "_law_regrown" = some (.ref f)) (c_Floor_places : MethG P w K mg base 1 (cl 0) "places" (spM ⟨K, cl⟩ 1 f_Floor_places)) (c_Floor_height : MethG P w K mg base 3 (cl 0) "height" (spM ⟨K, cl⟩ 1 f_Floor_height)) (c_Floor_regrow : MethG P w K mg base 6 (cl 0) "regrow" (spM ⟨K, cl⟩ 1 f_Floor_regrow)) (c__law_carried : CalG P w K mg base 2 "_law_carried" (spM ⟨K, cl⟩ 4 f__law_carried)) : CalG P w K mg base 7 "_law_regrown" (spM ⟨K, cl⟩ 4 f__law_regrown) := by
  refine ⟨f, fd, ["_law_floor", "_law_things", "_law_signs", "_law_held"], ?_, g, F.kp, F.bindsN fun _ _ _ _ _ _ us hl => match us, hl with | [_, _, _, _], _ => rfl⟩
  refine def_okN (io := [true, true, true, true]) (more := 5) (m := m__law_regrown) F sc__law_regrown rfl rfl ?_
  intro cdv A outer s H E hr
  exact ⟨_, _, (pss_cons (ps_par (i := 4) (j := 5) rfl sc__law_regrown.nd rfl rfl (by decide) rfl rfl (pa_cons (pe_mth0 c_Floor_places hr (by decide) passL (pv 0)) (pa_cons (pe_mth0 c_Floor_height hr (by decide) passL (pv 0)) pa_nil)) rfl) (pss_cons (ps_set (i := 6) sc__law_regrown.nd rfl (.inl rfl) (pe_mth0 c_Floor_regrow hr (by decide) passL (pv 0))) (pss_cons (ps_if (pt_cmpR (op_eqU hr.u64) (pv 6) (pe_lst pa_nil) (nomark _)) (pss_one (ps_ret (pe_cmpR (op_eqDI hr.u64) (pe_mth0 c_Floor_places hr (by decide) passL (pv 0)) (pv 4) (nomark _)))) pss_nil) (pss_cons (ps_if (PW.pt (pw_or (pt_val (pe_callB (cr_any rfl) rfl Fc.f_any (by rfl) (pa_cons (pe_lc (own := [("_law_t", 7), ("_law_place", 8)]) rfl sc__law_regrown.nd (pi_any (pv 6)) (blkOk_by (N := ["_law_floor", "_law_things", "_law_signs", "_law_held", "_law_ahead", "_law_high", "_law_told", "_law_t", "_law_place"]) (sc := defScope s__law_regrown) (own := [("_law_t", 7), ("_law_place", 8)]) (by decide +kernel)) (fun _ _ _ _ _ => (pg_tup rfl (pgs_cons (pg_name (i := 7) sc__law_regrown.nd rfl (.inl rfl)) (pgs_cons (pg_name (i := 8) sc__law_regrown.nd rfl (.inl rfl)) pgs_nil)))) (fun _ _ _ _ _ => pts_nil) (fun _ _ _ _ _ => (pe_cmpR (op_inU hr.u65) (pv 7) (pv 3) (by with_unfolding_all rfl)))) pa_nil))) (pw_or1 (pt_not (pt_val (pe_g c__law_carried hr (by decide) passL rfl (pa_cons (pv 6) (pa_cons (pv 4) (pa_cons (pv 1) (pa_cons (pv 2) pa_nil)))))))))) (pss_one (ps_ret pe_bl)) pss_nil) (pss_one (ps_ret (pe_cmpR op_lt (pe_mth0 c_Floor_height hr (by decide) passL (pv 0)) (pv 5) (nomark _)))))))), (tsm_seq (tsm_par (tam_val (tem_frz (tem_meth rfl tam_nil)) (tam_val (tem_frz (tem_meth rfl tam_nil)) tam_nil))) (tsm_seq (tsm_set (tem_frz (tem_meth rfl tam_nil))) (tsm_seq (tsm_if (ttm_lift (ttv_test (tev_op (tev_var (i := 6)) (tev_n (ten_lst tav_nil)) ov_eq))) (tsm_ret (tem_eqDV (tem_meth rfl tam_nil) (tev_var (i := 4)))) tsm_next) (tsm_seq (tsm_if (ttm_or (ttm_lift (ttv_B (tev_cb (tav_cons (tev_n (ten_lc (tiv_any (tev_var (i := 6))) (tgq_tup (tgsq_cons tgq_name (tgsq_cons tgq_name tgsq_nil))) (by decide) ttv_yes (tev_op (tev_var (i := 7)) (tev_var (i := 3)) ov_in))) tav_nil) cb_any))) (ttm_not (ttm_B (tem_frz (tem_call rfl (tam_val (tem_lift (tev_var (i := 6))) (tam_val (tem_lift (tev_var (i := 4))) (tam_ref (tam_ref tam_nil))))))))) (tsm_ret (tem_lift (tev_c fun _ => .bl _))) tsm_next) (tsm_ret (tem_op (tem_frz (tem_meth rfl tam_nil)) (tem_lift (tev_var (i := 5))) ov_lt)))))), by decide⟩
theorem sc__law_deed : FnScope ["_law_tape_here", "_law_floor", "_law_things", "_law_signs", "_law_held", "_law_way", "_law_free", "_law_t", "_law_room"] ["_law_tape_here", "_law_floor", "_law_things", "_law_signs", "_law_held"] (defScope s__law_deed) := ⟨rfl, rfl, rfl, by decide +kernel, rfl, by decide +kernel, by decide +kernel⟩
noncomputable def m__law_deed : MS := (sSeq (sPar 5 6 (mCons (frzM (mCall f__law_draw [some 0, none] (mRef 0 (mCons (mLift (qC (.int 14))) mNil)))) (mCons (frzM (mNew (qLc (qKeysD 2) (fName 7) (qB (qOp oNin (qVar 7) (qVar 4))) (qVar 7) [7]))) mNil))) (sSeq (sIf (bLift (qOr (qAnd (qB (qOp oLt (qVar 5) (qC (.int 5)))) (qB (qOp oLt (qCb oLen (qCons (qVar 2) qNil)) (qC (.int 12))))) (qB (qEqD0 (qVar 2))))) (sRet (mCall f__law_come [some 0, some 1, some 2, some 3] (mRef 0 (mRef 1 (mRef 2 (mRef 3 mNil)))))) sNext) (sSeq (sIf (bLift (qAnd (qB (qOp oLt (qVar 5) (qC (.int 8)))) (qB (qOp oNe (qVar 6) (qFz (qLst qNil)))))) (sSeq (sSet 7 (mOp oIx (mLift (qVar 6)) (frzM (mCall f__law_draw [some 0, none] (mRef 0 (mCons (mLift (qCb oLen (qCons (qVar 6) qNil))) mNil)))))) (sSeq (sFor (iAnyM (frzM (mCall f__law_rooms [none, none] (mCons (mPopP (gtV 2) (stV 2) (qVar 7)) (mCons (mOp oIx (frzM (mMeth 0 1 "places" f_Floor_places [] mNil)) (mLift (qVar 7))) mNil))))) (fName 8) (sDrop (mPopP (gtV 3) (stV 3) (qVar 8)))) (sRet (mOp oIsN (frzM (mMeth 0 1 "leave" f_Floor_leave [none] (mCons (mLift (qVar 7)) mNil))) (mLift (qC (.none))))))) sNext) (sSeq (sIf (bLift (qAnd (qB (qOp oLt (qVar 5) (qC (.int 10)))) (qB (qOp oNe (qVar 6) (qFz (qLst qNil)))))) (sSeq (sSet 7 (mOp oIx (mLift (qVar 6)) (frzM (mCall f__law_draw [some 0, none] (mRef 0 (mCons (mLift (qCb oLen (qCons (qVar 6) qNil))) mNil)))))) (sSeq (sSetP (gtV 4) (stV 4) (qVar 7) (mOp oIx (frzM (mMeth 0 1 "places" f_Floor_places [] mNil)) (mLift (qVar 7)))) (sRet (mOp oIsN (frzM (mMeth 0 1 "give" f_Floor_give [none] (mCons (mLift (qVar 7)) mNil))) (mLift (qC (.none))))))) sNext) (sSeq (sIf (bLift (qAnd (qB (qOp oLt (qVar 5) (qC (.int 12)))) (qB (qNeD0 (qVar 4))))) (sSeq (sSet 7 (mOp oIx (mLift (qFz (qCb oListD (qCons (qVar 4) qNil)))) (frzM (mCall f__law_draw [some 0, none] (mRef 0 (mCons (mLift (qCb oLen (qCons (qVar 4) qNil))) mNil)))))) (sSeq (sDrop (mPopP (gtV 4) (stV 4) (qVar 7))) (sRet (mOp oIsN (frzM (mMeth 0 1 "back" f_Floor_back [none] (mCons (mLift (qVar 7)) mNil))) (mLift (qC (.none))))))) sNext) (sRet (mCall f__law_regrown [some 1, some 2, some 3, some 4] (mRef 1 (mRef 2 (mRef 3 (mRef 4 mNil)))))))))))
noncomputable def f__law_deed : List O → FR := defN 4 [true, true, true, true, true] m__law_deed
theorem ok__law_deed {f : Addr} {fd : FuncData} (Fc : Fct K cl mg) (F : FunD K "_law_deed" "_law_deed" (defArgs s__law_deed) (defBody s__law_deed) (defScope s__law_deed) [] [] f fd) (g : mg "_law_deed" = some (.ref f)) (c__law_draw : CalG P w K mg base 1 "_law_draw" (spM ⟨K, cl⟩ 2 f__law_draw)) (c__law_come : CalG P w K mg base 5 "_law_come" (spM ⟨K, cl⟩ 4 f__law_come)) (c__law_rooms : CalG P w K mg base 1 "_law_rooms" (spM ⟨K, cl⟩ 2 f__law_rooms)) (c_Floor_leave : MethG P w K mg base 2 (cl 0) "leave" (spM ⟨K, cl⟩ 2 f_Floor_leave)) (c_Floor_places : MethG P w K mg base 1 (cl 0) "places" (spM ⟨K, cl⟩ 1 f_Floor_places)) (c_Floor_give : MethG P w K mg base 2 (cl 0) "give" (spM ⟨K, cl⟩ 2 f_Floor_give)) (c_Floor_back : MethG P w K mg base 2 (cl 0) "back" (spM ⟨K, cl⟩ 2 f_Floor_back)) (c__law_regrown : CalG P w K mg base 7 "_law_regrown" (spM ⟨K, cl⟩ 4 f__law_regrown)) : CalG P w K mg base 8 "_law_deed" (spM ⟨K, cl⟩ 5 f__law_deed) := by
  refine ⟨f, fd, ["_law_tape_here", "_law_floor", "_law_things", "_law_signs", "_law_held"], ?_, g, F.kp, F.bindsN fun _ _ _ _ _ _ us hl => match us, hl with | [_, _, _, _, _], _ => rfl⟩
  refine def_okN (io := [true, true, true, true, true]) (more := 4) (m := m__law_deed) F sc__law_deed rfl rfl ?_
  intro cdv A outer s H E hr
  exact ⟨_, _, (pss_cons (ps_par (i := 5) (j := 6) rfl sc__law_deed.nd rfl rfl (by decide) rfl rfl (pa_cons (pe_g c__law_draw hr (by decide) passL rfl (pa_cons (pv 0) (pa_cons pe_int pa_nil))) (pa_cons (pe_lcK (own := [("_law_t", 7)]) rfl sc__law_deed.nd (pi_keys (pv 2)) (blkOk_by (N := ["_law_tape_here", "_law_floor", "_law_things", "_law_signs", "_law_held", "_law_way", "_law_free", "_law_t", "_law_room"]) (sc := defScope s__law_deed) (own := [("_law_t", 7)]) (by decide +kernel)) (fun _ _ _ _ _ => (pg_name (i := 7) sc__law_deed.nd rfl (.inl rfl))) (fun _ _ _ _ _ => pts_one (pt_cmpR (op_ninU hr.u65) (pv 7) (pv 4) (by with_unfolding_all rfl))) (fun _ _ _ _ _ => (pv 7))) pa_nil)) rfl) (pss_cons (ps_if (PW.pt (pw_or (PW.pt (pw_and (pt_cmpR op_lt (pv 5) pe_int (nomark _)) (pw_and1 (pt_cmpR op_lt (pe_callB call_lenU rfl Fc.f_len (by rfl) (pa_cons (pv 2) pa_nil)) pe_int (nomark _))))) (pw_or1 (pt_cmpR (op_eqD0 hr.u64) (pv 2) pe_dnewK (nomark _))))) (pss_one (ps_ret (pe_g c__law_come hr (by decide) passL rfl (pa_cons (pv 0) (pa_cons (pv 1) (pa_cons (pv 2) (pa_cons (pv 3) pa_nil))))))) pss_nil) (pss_cons (ps_if (PW.pt (pw_and (pt_cmpR op_lt (pv 5) pe_int (nomark _)) (pw_and1 (pt_cmpR (op_neU hr.u64) (pv 6) (pe_lst pa_nil) (nomark _))))) (pss_cons (ps_set (i := 7) sc__law_deed.nd rfl (.inl rfl) (pe_ix (ix_U hr.u1) (pv 6) (pe_g c__law_draw hr (by decide) passL rfl (pa_cons (pv 0) (pa_cons (pe_callB call_lenU rfl Fc.f_len (by rfl) (pa_cons (pv 6) pa_nil)) pa_nil))) (fun _ _ => rfl))) (pss_cons (ps_for PassesOwn.never rfl (pi_any (pe_g c__law_rooms hr (by decide) passL rfl (pa_cons (pe_dpop1 (pv 2) (pv 7) ⟨rfl, rfl, rfl, rfl⟩) (pa_cons (pe_ix (ix_U hr.u1) (pe_mth0 c_Floor_places hr (by decide) passL (pv 1)) (pv 7) (fun _ _ => rfl)) pa_nil)))) (pg_name (i := 8) sc__law_deed.nd rfl (.inl rfl)) (pss_one (ps_expr (pe_dpop1 (pv 3) (pv 8) ⟨rfl, rfl, rfl, rfl⟩)))) (pss_one (ps_ret (pe_cmpR op_isN (pe_mth c_Floor_leave hr (by decide) passL (pv 1) (pa_cons (pv 7) pa_nil)) pe_non (nomark _)))))) pss_nil) (pss_cons (ps_if (PW.pt (pw_and (pt_cmpR op_lt (pv 5) pe_int (nomark _)) (pw_and1 (pt_cmpR (op_neU hr.u64) (pv 6) (pe_lst pa_nil) (nomark _))))) (pss_cons (ps_set (i := 7) sc__law_deed.nd rfl (.inl rfl) (pe_ix (ix_U hr.u1) (pv 6) (pe_g c__law_draw hr (by decide) passL rfl (pa_cons (pv 0) (pa_cons (pe_callB call_lenU rfl Fc.f_len (by rfl) (pa_cons (pv 6) pa_nil)) pa_nil))) (fun _ _ => rfl))) (pss_cons (ps_asg (pe_ix (ix_U hr.u1) (pe_mth0 c_Floor_places hr (by decide) passL (pv 1)) (pv 7) (fun _ _ => rfl)) (pg_sub (pv 4) (pv 7) (set_U hr.u1))) (pss_one (ps_ret (pe_cmpR op_isN (pe_mth c_Floor_give hr (by decide) passL (pv 1) (pa_cons (pv 7) pa_nil)) pe_non (nomark _)))))) pss_nil) (pss_cons (ps_if (PW.pt (pw_and (pt_cmpR op_lt (pv 5) pe_int (nomark _)) (pw_and1 (pt_cmpR (op_neD0 hr.u64) (pv 4) pe_dnewK (nomark _))))) (pss_cons (ps_set (i := 7) sc__law_deed.nd rfl (.inl rfl) (pe_ix (ix_U hr.u1) (pe_callTy (cr_listD rfl) rfl Fc.f_list (by rfl) (pa_cons (pv 4) pa_nil)) (pe_g c__law_draw hr (by decide) passL rfl (pa_cons (pv 0) (pa_cons (pe_callB call_lenU rfl Fc.f_len (by rfl) (pa_cons (pv 4) pa_nil)) pa_nil))) (fun _ _ => rfl))) (pss_cons (ps_expr (pe_dpop1 (pv 4) (pv 7) ⟨rfl, rfl, rfl, rfl⟩)) (pss_one (ps_ret (pe_cmpR op_isN (pe_mth c_Floor_back hr (by decide) passL (pv 1) (pa_cons (pv 7) pa_nil)) pe_non (nomark _)))))) pss_nil) (pss_one (ps_ret (pe_g c__law_regrown hr (by decide) passL rfl (pa_cons (pv 1) (pa_cons (pv 2) (pa_cons (pv 3) (pa_cons (pv 4) pa_nil)))))))))))), (tsm_seq (tsm_par (tam_val (tem_frz (tem_call rfl (tam_ref (tam_val (tem_lift (tev_c fun _ => .int _)) tam_nil)))) (tam_val (tem_frz (tem_lck tgq_name (by decide) (ttv_test (tev_op (tev_var (i := 7)) (tev_var (i := 4)) ov_nin)) (tev_var (i := 7)))) tam_nil))) (tsm_seq (tsm_if (ttm_lift (ttv_or (ttv_and (ttv_test (tev_op (tev_var (i := 5)) (tev_c fun _ => .int _) ov_lt)) (ttv_test (tev_op (tev_cb (tav_cons (tev_var (i := 2)) tav_nil) cb_len) (tev_c fun _ => .int _) ov_lt))) (ttv_test (tev_eqD0 (tev_var (i := 2)))))) (tsm_ret (tem_call rfl (tam_ref (tam_ref (tam_ref (tam_ref tam_nil)))))) tsm_next) (tsm_seq (tsm_if (ttm_lift (ttv_and (ttv_test (tev_op (tev_var (i := 5)) (tev_c fun _ => .int _) ov_lt)) (ttv_test (tev_op (tev_var (i := 6)) (tev_n (ten_lst tav_nil)) ov_ne)))) (tsm_seq (tsm_set (tem_op (tem_lift (tev_var (i := 6))) (tem_frz (tem_call rfl (tam_ref (tam_val (tem_lift (tev_cb (tav_cons (tev_var (i := 6)) tav_nil) cb_len)) tam_nil)))) ov_ix)) (tsm_seq (tsm_for (tim_any (tem_frz (tem_call rfl (tam_val (tem_popP pld_var (tev_var (i := 7))) (tam_val (tem_op (tem_frz (tem_meth rfl tam_nil)) (tem_lift (tev_var (i := 7))) ov_ix) tam_nil))))) tgq_name (tsm_drop (tem_popP pld_var (tev_var (i := 8))))) (tsm_ret (tem_op (tem_frz (tem_meth rfl (tam_val (tem_lift (tev_var (i := 7))) tam_nil))) (tem_lift (tev_c fun _ => .non)) ov_isN)))) tsm_next) (tsm_seq (tsm_if (ttm_lift (ttv_and (ttv_test (tev_op (tev_var (i := 5)) (tev_c fun _ => .int _) ov_lt)) (ttv_test (tev_op (tev_var (i := 6)) (tev_n (ten_lst tav_nil)) ov_ne)))) (tsm_seq (tsm_set (tem_op (tem_lift (tev_var (i := 6))) (tem_frz (tem_call rfl (tam_ref (tam_val (tem_lift (tev_cb (tav_cons (tev_var (i := 6)) tav_nil) cb_len)) tam_nil)))) ov_ix)) (tsm_seq (tsm_setP pld_var (tem_op (tem_frz (tem_meth rfl tam_nil)) (tem_lift (tev_var (i := 7))) ov_ix) (tev_var (i := 7))) (tsm_ret (tem_op (tem_frz (tem_meth rfl (tam_val (tem_lift (tev_var (i := 7))) tam_nil))) (tem_lift (tev_c fun _ => .non)) ov_isN)))) tsm_next) (tsm_seq (tsm_if (ttm_lift (ttv_and (ttv_test (tev_op (tev_var (i := 5)) (tev_c fun _ => .int _) ov_lt)) (ttv_test (tev_neD0 (tev_var (i := 4)))))) (tsm_seq (tsm_set (tem_op (tem_lift (tev_n (ten_cb (tav_cons (tev_var (i := 4)) tav_nil) cn_listD))) (tem_frz (tem_call rfl (tam_ref (tam_val (tem_lift (tev_cb (tav_cons (tev_var (i := 4)) tav_nil) cb_len)) tam_nil)))) ov_ix)) (tsm_seq (tsm_drop (tem_popP pld_var (tev_var (i := 7)))) (tsm_ret (tem_op (tem_frz (tem_meth rfl (tam_val (tem_lift (tev_var (i := 7))) tam_nil))) (tem_lift (tev_c fun _ => .non)) ov_isN)))) tsm_next) (tsm_ret (tem_call rfl (tam_ref (tam_ref (tam_ref (tam_ref tam_nil))))))))))), by decide⟩
theorem sc_Floor_given : FnScope ["self"] ["self"] (defScope s_Floor_given) := ⟨rfl, rfl, rfl, by decide +kernel, rfl, by decide +kernel, by decide +kernel⟩
noncomputable def m_Floor_given : MS := (sRet (mNew (qCb oSortV (qCons (qFld 0 0 "held") qNil))))
noncomputable def f_Floor_given : List O → FR := defN 0 [true] m_Floor_given
theorem ok_Floor_given {f : Addr} {fd : FuncData} (Fc : Fct K cl mg) (F : FunD K "given" "Floor.given" (defArgs s_Floor_given) (defBody s_Floor_given) (defScope s_Floor_given) [] [] f fd) (g : Meth K (cl 0) "given" f) : MethG P w K mg base 1 (cl 0) "given" (spM ⟨K, cl⟩ 1 f_Floor_given) := by
  refine ⟨f, fd, ["self"], ?_, Fc.c_Floor, g, F.bindsN fun _ _ _ _ _ _ us hl => match us, hl with | [_], _ => rfl⟩
  refine def_okN (io := [true]) (more := 0) (m := m_Floor_given) F sc_Floor_given rfl rfl ?_
  intro cdv A outer s H E hr
  exact ⟨_, _, (pss_one (ps_ret (pe_callB (cr_sortedV rfl hr.u64) rfl Fc.f_sorted (by rfl) (pa_cons (pe_fld (pv 0) rfl) pa_nil)))), (tsm_ret (tem_new (ten_cb (tav_cons (tev_fld Fc.c_Floor Fc.n_Floor_held) tav_nil) cn_sortV))), by decide⟩
theorem sc__law_lies : FnScope ["_law_floor", "_law_things", "_law_signs", "_law_held", "_law_places", "_law_high", "_law_t", "_law_k", "_law_room"] ["_law_floor", "_law_things", "_law_signs", "_law_held"] (defScope s__law_lies) := ⟨rfl, rfl, rfl, by decide +kernel, rfl, by decide +kernel, by decide +kernel⟩
noncomputable def m__law_lies : MS := (sSeq (sSet 4 (frzM (mMeth 0 0 "places" f_Floor_places [] mNil))) (sSeq (sIf (bOr (bLift (qB (qOp oNe (qFz (qCb oSortV (qCons (qVar 4) qNil))) (qFz (qCb oSortV (qCons (qVar 1) qNil)))))) (bTest (mOp oNe (frzM (mMeth 0 0 "given" f_Floor_given [] mNil)) (mLift (qFz (qCb oSortV (qCons (qVar 3) qNil))))))) (sRet (mLift (qC (.bool false)))) sNext) (sSeq (sSet 5 (mLift (qC (.int 0)))) (sSeq (sQs [1] [6, 7, 8, 5] (sForKQ (qVar 1) (fName 6) (sSeq (sIf (bLift (qOr (qB (qOp oLt (qOp oIx (qVar 4) (qVar 6)) (qC (.int 0)))) (qOr (qB (qOp oNe (qOp oMod (qOp oIx (qVar 4) (qVar 6)) (qOp oIx (qOp oIx (qVar 1) (qVar 6)) (qC (.int 1)))) (qC (.int 0)))) (qAnd (qB (qOp oIn (qVar 6) (qVar 3))) (qB (qOp oNe (qOp oIx (qVar 4) (qVar 6)) (qOp oIx (qVar 3) (qVar 6)))))))) (sRet (mLift (qC (.bool false)))) sNext) (sSeq (sForQ (qEnum (qCons (qCall (qOf f__law_rooms) (qCons (qOp oIx (qVar 1) (qVar 6)) (qCons (qOp oIx (qVar 4) (qVar 6)) qNil))) qNil)) (fTup 2 (fCons (fName 7) (fCons (fName 8) fNil))) (sIf (bLift (qB (qOp oNe (qOp oGet1 (qVar 2) (qVar 8)) (qTup (qCons (qVar 6) (qCons (qVar 7) qNil)))))) (sRet (mLift (qC (.bool false)))) sNext)) (sAsg (fName 5) (mLift (qCb oMax2 (qCons (qVar 5) (qCons (qOp oAdd (qOp oIx (qVar 4) (qVar 6)) (qOp oIx (qOp oIx (qVar 1) (qVar 6)) (qC (.int 0)))) qNil))))))))) (sRet (mOp oEq (frzM (mMeth 0 0 "height" f_Floor_height [] mNil)) (mLift (qVar 5))))))))
noncomputable def f__law_lies : List O → FR := defN 5 [true, true, true, true] m__law_lies
theorem ok__law_lies {f : Addr} {fd : FuncData} (Fc : Fct K cl mg) (F : FunD K "_law_lies" "_law_lies" (defArgs s__law_lies) (defBody s__law_lies) (defScope s__law_lies) [] [] f fd) (g : mg "_law_lies" = some (.ref f)) (c_Floor_places : MethG P w K mg base 1 (cl 0) "places" (spM ⟨K, cl⟩ 1 f_Floor_places)) (c_Floor_given : MethG P w K mg base 1 (cl 0) "given" (spM ⟨K, cl⟩ 1 f_Floor_given)) (c__law_rooms : CalG P w K mg base 1 "_law_rooms" (spM ⟨K, cl⟩ 2 f__law_rooms)) (c_Floor_height : MethG P w K mg base 3 (cl 0) "height" (spM ⟨K, cl⟩ 1 f_Floor_height)) : CalG P w K mg base 4 "_law_lies" (spM ⟨K, cl⟩ 4 f__law_lies) := by
  refine ⟨f, fd, ["_law_floor", "_law_things", "_law_signs", "_law_held"], ?_, g, F.kp, F.bindsN fun _ _ _ _ _ _ us hl => match us, hl with | [_, _, _, _], _ => rfl⟩
  refine def_okN (io := [true, true, true, true]) (more := 5) (m := m__law_lies) F sc__law_lies rfl rfl ?_
  intro cdv A outer s H E hr
  exact ⟨_, _, (pss_cons (ps_set (i := 4) sc__law_lies.nd rfl (.inl rfl) (pe_mth0 c_Floor_places hr (by decide) passL (pv 0))) (pss_cons (ps_if (PW.pt (pw_or (pt_cmpR (op_neU hr.u64) (pe_callB (cr_sortedV rfl hr.u64) rfl Fc.f_sorted (by rfl) (pa_cons (pv 4) pa_nil)) (pe_callB (cr_sortedV rfl hr.u64) rfl Fc.f_sorted (by rfl) (pa_cons (pv 1) pa_nil)) (nomark _)) (pw_or1 (pt_cmpR (op_neU hr.u64) (pe_mth0 c_Floor_given hr (by decide) passL (pv 0)) (pe_callB (cr_sortedV rfl hr.u64) rfl Fc.f_sorted (by rfl) (pa_cons (pv 3) pa_nil)) (nomark _))))) (pss_one (ps_ret pe_bl)) pss_nil) (pss_cons (ps_set (i := 5) sc__law_lies.nd rfl (.inl rfl) pe_int) (pss_cons (ps_orS (ps_for PassesOwn.never rfl (pi_keys (pv 1)) (pg_name (i := 6) sc__law_lies.nd rfl (.inl rfl)) (pss_cons (ps_if (PW.pt (pw_or (pt_cmpR op_lt (pe_ix (ix_U hr.u1) (pv 4) (pv 6) (fun _ _ => rfl)) pe_int (nomark _)) (pw_or (pt_cmpR (op_neU hr.u64) (pe_op op_mod (pe_ix (ix_U hr.u1) (pv 4) (pv 6) (fun _ _ => rfl)) (pe_ix (ix_U hr.u1) (pe_ix (ix_U hr.u1) (pv 1) (pv 6) (fun _ _ => rfl)) pe_int (fun _ _ => rfl))) pe_int (nomark _)) (pw_or1 (PW.pt (pw_and (pt_cmpR (op_inU hr.u65) (pv 6) (pv 3) (by with_unfolding_all rfl)) (pw_and1 (pt_cmpR (op_neU hr.u64) (pe_ix (ix_U hr.u1) (pv 4) (pv 6) (fun _ _ => rfl)) (pe_ix (ix_U hr.u1) (pv 3) (pv 6) (fun _ _ => rfl)) (nomark _))))))))) (pss_one (ps_ret pe_bl)) pss_nil) (pss_cons (ps_for PassesOwn.never rfl (pi_enum rfl Fc.f_enumerate (pa_cons (pe_g c__law_rooms.quiet hr (by decide) passL rfl (pa_cons (pe_ix (ix_U hr.u1) (pv 1) (pv 6) (fun _ _ => rfl)) (pa_cons (pe_ix (ix_U hr.u1) (pv 4) (pv 6) (fun _ _ => rfl)) pa_nil))) pa_nil)) (pg_tup rfl (pgs_cons (pg_name (i := 7) sc__law_lies.nd rfl (.inl rfl)) (pgs_cons (pg_name (i := 8) sc__law_lies.nd rfl (.inl rfl)) pgs_nil))) (pss_one (ps_if (pt_cmpR (op_neU hr.u64) (pe_dget1 hr.u1 (pv 2) (pv 8) ⟨rfl, rfl, rfl, rfl⟩) (pe_tup (pa_cons (pv 6) (pa_cons (pv 7) pa_nil))) (nomark _)) (pss_one (ps_ret pe_bl)) pss_nil))) (pss_one (ps_set (i := 5) sc__law_lies.nd rfl (.inl rfl) (pe_callB (call_max2 rfl) rfl Fc.f_max (by rfl) (pa_cons (pv 5) (pa_cons (pe_op op_addU (pe_ix (ix_U hr.u1) (pv 4) (pv 6) (fun _ _ => rfl)) (pe_ix (ix_U hr.u1) (pe_ix (ix_U hr.u1) (pv 1) (pv 6) (fun _ _ => rfl)) pe_int (fun _ _ => rfl))) pa_nil)))))))) (ps_lock (ps_for PassesOwn.never rfl (pi_keys (pv 1)) (pg_name (i := 6) sc__law_lies.nd rfl (.inl rfl)) (pss_cons (ps_if (PW.pt (pw_or (pt_cmpR op_lt (pe_ix (ix_U hr.u1) (pv 4) (pv 6) (fun _ _ => rfl)) pe_int (nomark _)) (pw_or (pt_cmpR (op_neU hr.u64) (pe_op op_mod (pe_ix (ix_U hr.u1) (pv 4) (pv 6) (fun _ _ => rfl)) (pe_ix (ix_U hr.u1) (pe_ix (ix_U hr.u1) (pv 1) (pv 6) (fun _ _ => rfl)) pe_int (fun _ _ => rfl))) pe_int (nomark _)) (pw_or1 (PW.pt (pw_and (pt_cmpR (op_inU hr.u65) (pv 6) (pv 3) (by with_unfolding_all rfl)) (pw_and1 (pt_cmpR (op_neU hr.u64) (pe_ix (ix_U hr.u1) (pv 4) (pv 6) (fun _ _ => rfl)) (pe_ix (ix_U hr.u1) (pv 3) (pv 6) (fun _ _ => rfl)) (nomark _))))))))) (pss_one (ps_ret pe_bl)) pss_nil) (pss_cons (ps_for PassesOwn.never rfl (pi_enum rfl Fc.f_enumerate (pa_cons (pe_g c__law_rooms.quiet hr (by decide) passL rfl (pa_cons (pe_ix (ix_U hr.u1) (pv 1) (pv 6) (fun _ _ => rfl)) (pa_cons (pe_ix (ix_U hr.u1) (pv 4) (pv 6) (fun _ _ => rfl)) pa_nil))) pa_nil)) (pg_tup rfl (pgs_cons (pg_name (i := 7) sc__law_lies.nd rfl (.inl rfl)) (pgs_cons (pg_name (i := 8) sc__law_lies.nd rfl (.inl rfl)) pgs_nil))) (pss_one (ps_if (pt_cmpR (op_neU hr.u64) (pe_dget1 hr.u1 (pv 2) (pv 8) ⟨rfl, rfl, rfl, rfl⟩) (pe_tup (pa_cons (pv 6) (pa_cons (pv 7) pa_nil))) (nomark _)) (pss_one (ps_ret pe_bl)) pss_nil))) (pss_one (ps_set (i := 5) sc__law_lies.nd rfl (.inl rfl) (pe_callB (call_max2 rfl) rfl Fc.f_max (by rfl) (pa_cons (pv 5) (pa_cons (pe_op op_addU (pe_ix (ix_U hr.u1) (pv 4) (pv 6) (fun _ _ => rfl)) (pe_ix (ix_U hr.u1) (pe_ix (ix_U hr.u1) (pv 1) (pv 6) (fun _ _ => rfl)) pe_int (fun _ _ => rfl))) pa_nil)))))))))) (pss_one (ps_ret (pe_cmpR (op_eqU hr.u64) (pe_mth0 c_Floor_height hr (by decide) passL (pv 0)) (pv 5) (nomark _)))))))), (tsm_seq (tsm_set (tem_frz (tem_meth rfl tam_nil))) (tsm_seq (tsm_if (ttm_or (ttm_lift (ttv_test (tev_op (tev_n (ten_cb (tav_cons (tev_var (i := 4)) tav_nil) cn_sortV)) (tev_n (ten_cb (tav_cons (tev_var (i := 1)) tav_nil) cn_sortV)) ov_ne))) (ttm_test (tem_op (tem_frz (tem_meth rfl tam_nil)) (tem_lift (tev_n (ten_cb (tav_cons (tev_var (i := 3)) tav_nil) cn_sortV))) ov_ne))) (tsm_ret (tem_lift (tev_c fun _ => .bl _))) tsm_next) (tsm_seq (tsm_set (tem_lift (tev_c fun _ => .int _))) (tsm_seq (tsm_qs (js := [1]) (J := [6, 7, 8, 5]) (tsq_forK trd_var tgq_name (tsq_seq (tsq_if (ttv_or (ttv_test (tev_op (tev_op (tev_var (i := 4)) (tev_var (i := 6)) ov_ix) (tev_c fun _ => .int _) ov_lt)) (ttv_or (ttv_test (tev_op (tev_op (tev_op (tev_var (i := 4)) (tev_var (i := 6)) ov_ix) (tev_op (tev_op (tev_var (i := 1)) (tev_var (i := 6)) ov_ix) (tev_c fun _ => .int _) ov_ix) ov_mod) (tev_c fun _ => .int _) ov_ne)) (ttv_and (ttv_test (tev_op (tev_var (i := 6)) (tev_var (i := 3)) ov_in)) (ttv_test (tev_op (tev_op (tev_var (i := 4)) (tev_var (i := 6)) ov_ix) (tev_op (tev_var (i := 3)) (tev_var (i := 6)) ov_ix) ov_ne))))) (tsq_ret (tev_c fun _ => .bl _)) tsq_next) (tsq_seq (tsq_for (TIf.v (tif_enum (tav_cons (tev_call (qlen_cons (qlen_cons qlen_nil)) (tav_cons (tev_op (tev_var (i := 1)) (tev_var (i := 6)) ov_ix) (tav_cons (tev_op (tev_var (i := 4)) (tev_var (i := 6)) ov_ix) tav_nil))) tav_nil))) (tgq_tup (tgsq_cons tgq_name (tgsq_cons tgq_name tgsq_nil))) (tsq_if (ttv_test (tev_op (tev_get1 (tev_var (i := 2)) (tev_var (i := 8))) (tev_tup (tav_cons (tev_var (i := 6)) (tav_cons (tev_var (i := 7)) tav_nil))) ov_ne)) (tsq_ret (tev_c fun _ => .bl _)) tsq_next)) (tsq_asg tgq_name (tev_cb (tav_cons (tev_var (i := 5)) (tav_cons (tev_op (tev_op (tev_var (i := 4)) (tev_var (i := 6)) ov_ix) (tev_op (tev_op (tev_var (i := 1)) (tev_var (i := 6)) ov_ix) (tev_c fun _ => .int _) ov_ix) ov_add) tav_nil)) cb_max2)))))) (tsm_ret (tem_op (tem_frz (tem_meth rfl tam_nil)) (tem_lift (tev_var (i := 5))) ov_eq)))))), by decide⟩
theorem sc_law : FnScope ["_law_script", "_law_k", "_law_tape_here", "_law_floor", "_law_things", "_law_signs", "_law_held", "_law_turn"] ["_law_script"] (defScope s_law) := ⟨rfl, rfl, rfl, by decide +kernel, rfl, by decide +kernel, by decide +kernel⟩
noncomputable def m_law_1 : MS := (sSet 2 (mCall f__law_tape [none, none] (mCons (mLift (qVar 0)) (mCons (mLift (qVar 1)) mNil))))
noncomputable def m_law_2 : MS := (sAsgM (tTup 4 (tCons2 (tName 3) (tCons2 (tName 4) (tCons2 (tName 5) (tCons2 (tName 6) tNil2))))) (mTup (mCons (mMake 0 f_Floor___init__ mNil) (mCons (mNew qDk0) (mCons (mNew qDk0) (mCons (mNew qDk0) mNil))))))
noncomputable def m_law_3 : MS := (sIf (bNot (bTest (frzM (mCall f__law_deed [some 2, some 3, some 4, some 5, some 6] (mRef 2 (mRef 3 (mRef 4 (mRef 5 (mRef 6 mNil))))))))) (sRet (mLift (qC (.bool false)))) sNext)
noncomputable def m_law_4 : MS := (sIf (bNot (bTest (frzM (mCall f__law_lies [some 3, some 4, some 5, some 6] (mRef 3 (mRef 4 (mRef 5 (mRef 6 mNil)))))))) (sRet (mLift (qC (.bool false)))) sNext)
noncomputable def m_law_5 : MS := (sFor (iRng1M (mOp oAdd (mLift (qC (.int 8))) (frzM (mCall f__law_draw [some 2, none] (mRef 2 (mCons (mLift (qC (.int 33))) mNil)))))) (fName 7) (sSeq m_law_3 m_law_4))
noncomputable def m_law_6 : MS := (sFor (iLift (qRng1 (qCons (qCb oMax2 (qCons (qC (.int 1)) (qCons (qCb oMin2 (qCons (qC (.int 3)) (qCons (qCb oLen (qCons (qVar 0) qNil)) qNil))) qNil))) qNil))) (fName 1) (sSeq m_law_1 (sSeq m_law_2 m_law_5)))
noncomputable def m_law : MS := (sSeq m_law_6 (sRet (mLift (qC (.bool true)))))
noncomputable def f_law : List O → FR := defN 7 [false] m_law
theorem ok_law {f : Addr} {fd : FuncData} (Fc : Fct K cl mg) (F : FunD K "law" "law" (defArgs s_law) (defBody s_law) (defScope s_law) [] [] f fd) (c__law_tape : CalG P w K mg base 1 "_law_tape" (spM ⟨K, cl⟩ 2 f__law_tape)) (c_Floor___init__ : MakG P w K mg base 1 "Floor" (cl 0) (spM ⟨K, cl⟩ 1 f_Floor___init__)) (c__law_draw : CalG P w K mg base 1 "_law_draw" (spM ⟨K, cl⟩ 2 f__law_draw)) (c__law_deed : CalG P w K mg base 8 "_law_deed" (spM ⟨K, cl⟩ 5 f__law_deed)) (c__law_lies : CalG P w K mg base 4 "_law_lies" (spM ⟨K, cl⟩ 4 f__law_lies)) : FnG P w K mg base (CXg P w) 9 f fd ["_law_script"] (spM ⟨K, cl⟩ 1 f_law) := by
  refine def_okN (io := [false]) (more := 7) (m := m_law) F sc_law rfl rfl ?_
  intro cdv A outer s H E hr
  exact ⟨_, _, (pss_cons (ps_for PassesOwn.never rfl (pi_range1 rfl Fc.f_range (pa_cons (pe_callB (call_max2 rfl) rfl Fc.f_max (by rfl) (pa_cons pe_int (pa_cons (pe_callB (call_min2 rfl) rfl Fc.f_min (by rfl) (pa_cons pe_int (pa_cons (pe_callB call_lenU rfl Fc.f_len (by rfl) (pa_cons (pv 0) pa_nil)) pa_nil))) pa_nil))) pa_nil)) (pg_name (i := 1) sc_law.nd rfl (.inl rfl)) (pss_cons (ps_set (i := 2) sc_law.nd rfl (.inl rfl) (pe_g c__law_tape hr (by decide) passL rfl (pa_cons (pv 0) (pa_cons (pv 1) pa_nil)))) (pss_cons (ps_asg (pe_tup (pa_cons (pe_new0 c_Floor___init__ hr (by decide) passL rfl) (pa_cons pe_dnewK (pa_cons pe_dnewK (pa_cons pe_dnewK pa_nil))))) (pg_tup rfl (pgs_cons (pg_name (i := 3) sc_law.nd rfl (.inl rfl)) (pgs_cons (pg_name (i := 4) sc_law.nd rfl (.inl rfl)) (pgs_cons (pg_name (i := 5) sc_law.nd rfl (.inl rfl)) (pgs_cons (pg_name (i := 6) sc_law.nd rfl (.inl rfl)) pgs_nil)))))) (pss_one (ps_for PassesOwn.never rfl (pi_range1 rfl Fc.f_range (pa_cons (pe_op op_addU pe_int (pe_g c__law_draw hr (by decide) passL rfl (pa_cons (pv 2) (pa_cons pe_int pa_nil)))) pa_nil)) (pg_name (i := 7) sc_law.nd rfl (.inl rfl)) (pss_cons (ps_if (pt_not (pt_val (pe_g c__law_deed hr (by decide) passL rfl (pa_cons (pv 2) (pa_cons (pv 3) (pa_cons (pv 4) (pa_cons (pv 5) (pa_cons (pv 6) pa_nil)))))))) (pss_one (ps_ret pe_bl)) pss_nil) (pss_one (ps_if (pt_not (pt_val (pe_g c__law_lies hr (by decide) passL rfl (pa_cons (pv 3) (pa_cons (pv 4) (pa_cons (pv 5) (pa_cons (pv 6) pa_nil))))))) (pss_one (ps_ret pe_bl)) pss_nil)))))))) (pss_one (ps_ret pe_bl))), (tsm_seq (tsm_for (tim_lift (tif_rng1 (tav_cons (tev_cb (tav_cons (tev_c fun _ => .int _) (tav_cons (tev_cb (tav_cons (tev_c fun _ => .int _) (tav_cons (tev_cb (tav_cons (tev_var (i := 0)) tav_nil) cb_len) tav_nil)) cb_min2) tav_nil)) cb_max2) tav_nil))) tgq_name (tsm_seq (tsm_set (tem_call rfl (tam_val (tem_lift (tev_var (i := 0))) (tam_val (tem_lift (tev_var (i := 1))) tam_nil)))) (tsm_seq (tsm_asgM (tgm_tup (tgsm_cons tgm_name (tgsm_cons tgm_name (tgsm_cons tgm_name (tgsm_cons tgm_name tgsm_nil))))) (tem_tup (tam_val (tem_make rfl tam_nil nil_len) (tam_val (tem_new ten_dk0) (tam_val (tem_new ten_dk0) (tam_val (tem_new ten_dk0) tam_nil)))))) (tsm_for (tim_rng1 (tem_op (tem_lift (tev_c fun _ => .int _)) (tem_frz (tem_call rfl (tam_ref (tam_val (tem_lift (tev_c fun _ => .int _)) tam_nil)))) ov_add)) tgq_name (tsm_seq (tsm_if (ttm_not (ttm_B (tem_frz (tem_call rfl (tam_ref (tam_ref (tam_ref (tam_ref (tam_ref tam_nil))))))))) (tsm_ret (tem_lift (tev_c fun _ => .bl _))) tsm_next) (tsm_if (ttm_not (ttm_B (tem_frz (tem_call rfl (tam_ref (tam_ref (tam_ref (tam_ref tam_nil)))))))) (tsm_ret (tem_lift (tev_c fun _ => .bl _))) tsm_next)))))) (tsm_ret (tem_lift (tev_c fun _ => .bl _)))), by decide⟩
end
theorem hfacts {P : Program} {w : World} {K : Frag} {h : Heap} {mg : Str → Option Value} {f : Addr} (X : K.In h) (G : h.Ns mainGlobals mg) (hf : mg ("law" : Str) = some (.ref f)) (c : He.SaysD hfa hfn K) :
    ∃ fd : FuncData, (∀ (s : Shared) (v : Value), BindsTo s fd ⟨[v], []⟩ [("_law_script", v)]) ∧ ∀ base : Heap, FnG P w K mg base (CXg P w) 9 f fd ["_law_script"] (spM ⟨K, hcl K⟩ 1 f_law) := by
  have Fc : Fct K (hcl K) mg := ⟨He.cls_ok (c.fact 44 (f := .cls "Floor") rfl), He.noat_ok (c.fact 45 (f := .noat "Floor" "things") rfl), He.noat_ok (c.fact 46 (f := .noat "Floor" "own_places") rfl), He.noat_ok (c.fact 47 (f := .noat "Floor" "held") rfl), He.noat_ok (c.fact 48 (f := .noat "Floor" "many") rfl), He.free_ok X G (c.fact 30 (f := .free "abs") rfl), He.free_ok X G (c.fact 31 (f := .free "any") rfl), He.free_ok X G (c.fact 32 (f := .free "dict") rfl), He.free_ok X G (c.fact 33 (f := .free "enumerate") rfl), He.free_ok X G (c.fact 34 (f := .free "int") rfl), He.free_ok X G (c.fact 35 (f := .free "len") rfl), He.free_ok X G (c.fact 36 (f := .free "list") rfl), He.free_ok X G (c.fact 37 (f := .free "max") rfl), He.free_ok X G (c.fact 38 (f := .free "min") rfl), He.free_ok X G (c.fact 39 (f := .free "range") rfl), He.free_ok X G (c.fact 40 (f := .free "sorted") rfl), He.free_ok X G (c.fact 41 (f := .free "tuple") rfl), He.free_ok X G (c.fact 42 (f := .free "zip") rfl)⟩
  obtain ⟨fd__law_tape, F__law_tape⟩ := c.def_ 0 (d := d__law_tape) rfl
  obtain ⟨fd_Floor___init__, F_Floor___init__⟩ := c.def_ 1 (d := d_Floor___init__) rfl
  obtain ⟨fd__law_draw, F__law_draw⟩ := c.def_ 2 (d := d__law_draw) rfl
  obtain ⟨fd__law_small, F__law_small⟩ := c.def_ 3 (d := d__law_small) rfl
  obtain ⟨fd__law_rooms, F__law_rooms⟩ := c.def_ 4 (d := d__law_rooms) rfl
  obtain ⟨fd__law_least, F__law_least⟩ := c.def_ 5 (d := d__law_least) rfl
  obtain ⟨fd_end_of, F_end_of⟩ := c.def_ 6 (d := d_end_of) rfl
  obtain ⟨fd_lie_over, F_lie_over⟩ := c.def_ 7 (d := d_lie_over) rfl
  obtain ⟨fd_rounded, F_rounded⟩ := c.def_ 8 (d := d_rounded) rfl
  obtain ⟨fd_least_place, F_least_place⟩ := c.def_ 9 (d := d_least_place) rfl
  obtain ⟨fd_Floor_come, F_Floor_come⟩ := c.def_ 10 (d := d_Floor_come) rfl
  obtain ⟨fd_Floor_places, F_Floor_places⟩ := c.def_ 11 (d := d_Floor_places) rfl
  obtain ⟨fd__law_come, F__law_come⟩ := c.def_ 12 (d := d__law_come) rfl
  obtain ⟨fd_Floor_looked_for, F_Floor_looked_for⟩ := c.def_ 13 (d := d_Floor_looked_for) rfl
  obtain ⟨fd_Floor_leave, F_Floor_leave⟩ := c.def_ 14 (d := d_Floor_leave) rfl
  obtain ⟨fd_Floor_give, F_Floor_give⟩ := c.def_ 15 (d := d_Floor_give) rfl
  obtain ⟨fd_Floor_back, F_Floor_back⟩ := c.def_ 16 (d := d_Floor_back) rfl
  obtain ⟨fd_height_things, F_height_things⟩ := c.def_ 17 (d := d_height_things) rfl
  obtain ⟨fd_Floor_height, F_Floor_height⟩ := c.def_ 18 (d := d_Floor_height) rfl
  obtain ⟨fd_Floor_placed_anew, F_Floor_placed_anew⟩ := c.def_ 19 (d := d_Floor_placed_anew) rfl
  obtain ⟨fd_is_free, F_is_free⟩ := c.def_ 20 (d := d_is_free) rfl
  obtain ⟨fd_next_move, F_next_move⟩ := c.def_ 21 (d := d_next_move) rfl
  obtain ⟨fd_moves, F_moves⟩ := c.def_ 22 (d := d_moves) rfl
  obtain ⟨fd_Floor_regrow, F_Floor_regrow⟩ := c.def_ 23 (d := d_Floor_regrow) rfl
  obtain ⟨fd__law_carried, F__law_carried⟩ := c.def_ 24 (d := d__law_carried) rfl
  obtain ⟨fd__law_regrown, F__law_regrown⟩ := c.def_ 25 (d := d__law_regrown) rfl
  obtain ⟨fd__law_deed, F__law_deed⟩ := c.def_ 26 (d := d__law_deed) rfl
  obtain ⟨fd_Floor_given, F_Floor_given⟩ := c.def_ 27 (d := d_Floor_given) rfl
  obtain ⟨fd__law_lies, F__law_lies⟩ := c.def_ 28 (d := d__law_lies) rfl
  obtain ⟨fd_law, F_law⟩ := c.def_ 29 (d := d_law) rfl
  have e := hf.symm.trans (He.glo_ok X G (c.fact 29 (f := .glo "law") rfl))
  cases e
  refine ⟨fd_law, fun s v => FunD.bindsA (ps := ["_law_script"]) F_law (fun _ _ _ _ _ _ us hl => match us, hl with | [_], _ => rfl) s [v] rfl, fun base => ?_⟩
  have c__law_tape := ok__law_tape (P := P) (w := w) (base := base) (cl := hcl K) Fc F__law_tape (He.glo_ok X G (c.fact 0 (f := .glo "_law_tape") rfl))
  have c_Floor___init__ := ok_Floor___init__ (P := P) (w := w) (base := base) (cl := hcl K) Fc F_Floor___init__ (⟨He.mkr_ok (c.fact 1 (f := .mkr "Floor") rfl), He.glo_ok X G (c.fact 43 (f := .glo "Floor") rfl)⟩)
  have c__law_draw := ok__law_draw (P := P) (w := w) (base := base) (cl := hcl K) Fc F__law_draw (He.glo_ok X G (c.fact 2 (f := .glo "_law_draw") rfl))
  have c__law_small := ok__law_small (P := P) (w := w) (base := base) (cl := hcl K) Fc F__law_small (He.glo_ok X G (c.fact 3 (f := .glo "_law_small") rfl)) c__law_draw
  have c__law_rooms := ok__law_rooms (P := P) (w := w) (base := base) (cl := hcl K) Fc F__law_rooms (He.glo_ok X G (c.fact 4 (f := .glo "_law_rooms") rfl))
  have c__law_least := ok__law_least (P := P) (w := w) (base := base) (cl := hcl K) Fc F__law_least (He.glo_ok X G (c.fact 5 (f := .glo "_law_least") rfl)) c__law_rooms
  have c_end_of := ok_end_of (P := P) (w := w) (base := base) (cl := hcl K) Fc F_end_of (He.glo_ok X G (c.fact 6 (f := .glo "end_of") rfl))
  have c_lie_over := ok_lie_over (P := P) (w := w) (base := base) (cl := hcl K) Fc F_lie_over (He.glo_ok X G (c.fact 7 (f := .glo "lie_over") rfl)) c_end_of
  have c_rounded := ok_rounded (P := P) (w := w) (base := base) (cl := hcl K) Fc F_rounded (He.glo_ok X G (c.fact 8 (f := .glo "rounded") rfl))
  have c_least_place := ok_least_place (P := P) (w := w) (base := base) (cl := hcl K) Fc F_least_place (He.glo_ok X G (c.fact 9 (f := .glo "least_place") rfl)) c_lie_over c_rounded c_end_of
  have c_Floor_come := ok_Floor_come (P := P) (w := w) (base := base) (cl := hcl K) Fc F_Floor_come (He.meth_ok (c.fact 10 (f := .meth "Floor" "come") rfl)) c_least_place
  have c_Floor_places := ok_Floor_places (P := P) (w := w) (base := base) (cl := hcl K) Fc F_Floor_places (He.meth_ok (c.fact 11 (f := .meth "Floor" "places") rfl))
  have c__law_come := ok__law_come (P := P) (w := w) (base := base) (cl := hcl K) Fc F__law_come (He.glo_ok X G (c.fact 12 (f := .glo "_law_come") rfl)) c__law_small c__law_least c_Floor_come c_Floor_places c__law_rooms
  have c_Floor_looked_for := ok_Floor_looked_for (P := P) (w := w) (base := base) (cl := hcl K) Fc F_Floor_looked_for (He.meth_ok (c.fact 13 (f := .meth "Floor" "looked_for") rfl))
  have c_Floor_leave := ok_Floor_leave (P := P) (w := w) (base := base) (cl := hcl K) Fc F_Floor_leave (He.meth_ok (c.fact 14 (f := .meth "Floor" "leave") rfl)) c_Floor_looked_for
  have c_Floor_give := ok_Floor_give (P := P) (w := w) (base := base) (cl := hcl K) Fc F_Floor_give (He.meth_ok (c.fact 15 (f := .meth "Floor" "give") rfl)) c_Floor_looked_for
  have c_Floor_back := ok_Floor_back (P := P) (w := w) (base := base) (cl := hcl K) Fc F_Floor_back (He.meth_ok (c.fact 16 (f := .meth "Floor" "back") rfl)) c_Floor_looked_for
  have c_height_things := ok_height_things (P := P) (w := w) (base := base) (cl := hcl K) Fc F_height_things (He.glo_ok X G (c.fact 17 (f := .glo "height_things") rfl)) c_end_of
  have c_Floor_height := ok_Floor_height (P := P) (w := w) (base := base) (cl := hcl K) Fc F_Floor_height (He.meth_ok (c.fact 18 (f := .meth "Floor" "height") rfl)) c_height_things
  have c_Floor_placed_anew := ok_Floor_placed_anew (P := P) (w := w) (base := base) (cl := hcl K) Fc F_Floor_placed_anew (He.meth_ok (c.fact 19 (f := .meth "Floor" "placed_anew") rfl)) c_least_place
  have c_is_free := ok_is_free (P := P) (w := w) (base := base) (cl := hcl K) Fc F_is_free (He.glo_ok X G (c.fact 20 (f := .glo "is_free") rfl)) c_lie_over
  have c_next_move := ok_next_move (P := P) (w := w) (base := base) (cl := hcl K) Fc F_next_move (He.glo_ok X G (c.fact 21 (f := .glo "next_move") rfl)) c_is_free c_height_things c_rounded
  have c_moves := ok_moves (P := P) (w := w) (base := base) (cl := hcl K) Fc F_moves (He.glo_ok X G (c.fact 22 (f := .glo "moves") rfl)) c_next_move
  have c_Floor_regrow := ok_Floor_regrow (P := P) (w := w) (base := base) (cl := hcl K) Fc F_Floor_regrow (He.meth_ok (c.fact 23 (f := .meth "Floor" "regrow") rfl)) c_Floor_placed_anew c_height_things c_Floor_height c_moves
  have c__law_carried := ok__law_carried (P := P) (w := w) (base := base) (cl := hcl K) Fc F__law_carried (He.glo_ok X G (c.fact 24 (f := .glo "_law_carried") rfl)) c__law_rooms
  have c__law_regrown := ok__law_regrown (P := P) (w := w) (base := base) (cl := hcl K) Fc F__law_regrown (He.glo_ok X G (c.fact 25 (f := .glo "_law_regrown") rfl)) c_Floor_places c_Floor_height c_Floor_regrow c__law_carried
  have c__law_deed := ok__law_deed (P := P) (w := w) (base := base) (cl := hcl K) Fc F__law_deed (He.glo_ok X G (c.fact 26 (f := .glo "_law_deed") rfl)) c__law_draw c__law_come c__law_rooms c_Floor_leave c_Floor_places c_Floor_give c_Floor_back c__law_regrown
  have c_Floor_given := ok_Floor_given (P := P) (w := w) (base := base) (cl := hcl K) Fc F_Floor_given (He.meth_ok (c.fact 27 (f := .meth "Floor" "given") rfl))
  have c__law_lies := ok__law_lies (P := P) (w := w) (base := base) (cl := hcl K) Fc F__law_lies (He.glo_ok X G (c.fact 28 (f := .glo "_law_lies") rfl)) c_Floor_places c_Floor_given c__law_rooms c_Floor_height
  exact ok_law Fc F_law c__law_tape c_Floor___init__ c__law_draw c__law_deed c__law_lies
end FM
namespace FM
open PySem PySem.Spec L2 PyProof.Rows
def tpO (a s c : Int) : O := .lst [.int a, .int s, .int c]
theorem draw_spec {a s c m : Int} {n : Nat} {Q : O → List O → Prop} (ha : 0 ≤ a) (hs : 0 ≤ s) (hs2 : s < 2 ^ 62) (hc : 0 ≤ c) (hc2 : c ≤ n) (hn : n < 2 ^ 40) (hm : 0 < m) (hm2 : m < 2 ^ 200)
    (h : ∀ r a' c', 0 ≤ r → r < m → 0 ≤ a' → 0 ≤ c' → c' ≤ ((n + 1 : Nat) : Int) → Q (.fz (.int r)) [.lst [.int a', .int s, .int c'], .dead]) : wF (f__law_draw [.lst [.int a, .int s, .int c], .fz (.int m)]) Q := by
  unfold f__law_draw m__law_draw
  simp (maxSteps := 2000000) (disch := omega) [wS_seq, List.getElem?_cons_zero, qOp, qB, qCons, qNil, ixN, oMod_i, oDiv_i, oPow_i, oMul_l, oMul_r]
  refine ⟨fun h0 => ?_, fun h0 => ?_⟩
  · exact h _ _ _ (Int.emod_nonneg _ (by omega)) (Int.emod_lt_of_pos _ hm) (Int.ediv_nonneg ha (by omega)) hc (by omega)
  · exact h _ _ _ (Int.emod_nonneg _ (by omega)) (Int.emod_lt_of_pos _ hm) ha (by omega) (by omega)
theorem tape_spec {ns : List Int} {k : Int} {Q : O → List O → Prop} (h0 : 0 ≤ k) (h1 : k ≤ 100) (h : ∀ a s, 0 ≤ a → 0 ≤ s → s < 2 ^ 62 → Q (.lst [.int a, .int s, .int 0]) [.dead, .dead]) : wF (f__law_tape [.fz (.list (ns.map .int)), .fz (.int k)]) Q := by
  unfold f__law_tape m__law_tape
  simp (maxSteps := 2000000) (disch := omega) [wS_seq, List.getElem?_cons_zero, qOp, qB, qCons, qNil, qIf, qCb, qLst, ixN, oMod_i, oDiv_i, oPow_i, oMul_l, oMul_r]
  have hc : ∃ cell : Int, (match some (decide (k < ns.length)) with
        | some true => Option.map O.fz (atI (List.map PyData.int ns) k)
        | some false => some (O.fz (PyData.int 0))
        | none => none) = some (.fz (.int cell)) := by
    by_cases hk : k < ns.length
    · refine ⟨ns[k.toNat]'(by omega), ?_⟩
      rw [decide_eq_true hk, atI_nn h0]
      simp
    · refine ⟨0, ?_⟩
      rw [decide_eq_false hk]
  obtain ⟨cell, hc⟩ := hc
  refine ⟨_, hc, ?_⟩
  have h3 := Int.emod_nonneg cell (by decide : (2305843009213693951 : Int) ≠ 0)
  have h4 := Int.emod_lt_of_pos cell (by decide : (0 : Int) < 2305843009213693951)
  by_cases hb : (1000000000000000000 : Int) ≤ (if cell < 0 then -cell else cell)
  · simp (maxSteps := 2000000) (disch := omega) [hb, oMod_i, oMul_r, sizeLine]
    exact h _ _ (by omega) (by omega) (by omega)
  · simp (maxSteps := 2000000) (disch := omega) [hb, oMod_i, oMul_r, sizeLine]
    exact h _ _ (by omega) (by omega) (by omega)
end FM
namespace FM
open PySem PySem.Spec L2 PyProof.Rows
open PySem.W (dataLe alike dataLt)
theorem oSortV_encP (xs : List (Int × (Int × Int))) : oSortV [.fz (.list (xs.map encP))] = some (.lst ((sortP xs).map encP)) := by
  rw [oSortV_eq, oSortU_encP]
/-! ### pairs that are busy together -/
theorem len_le_sub {α : Type} [DecidableEq α] : ∀ {l r : List α}, l.Nodup → (∀ x ∈ l, x ∈ r) → l.length ≤ r.length
  | [], _, _, _ => Nat.zero_le _
  | x :: l, r, h, s => by
    have h1 := List.nodup_cons.mp h
    have hx : x ∈ r := s x List.mem_cons_self
    have ih := len_le_sub (l := l) (r := r.erase x) h1.2 fun y m => by
      have : y ≠ x := fun e => h1.1 (e ▸ m)
      exact (List.mem_erase_of_ne this).mpr (s y (List.mem_cons_of_mem _ m))
    have := List.length_erase_of_mem hx
    have hp : 0 < r.length := List.length_pos_of_mem hx
    rw [List.length_cons]
    omega
end FM
namespace FM
open PySem PySem.Spec L2 PyProof.Rows
theorem q_rounded {n b : Int} (h1 : 0 < b) (h2 : b < 2 ^ 62) : qOf f_rounded [.int n, .int b] = some (.int (up n b)) := by
  apply qof_of
  unfold f_rounded m_rounded
  simp (maxSteps := 2000000) (disch := omega) [List.getElem?_cons_zero, qOp, oDiv_i, oMul_r, up]
theorem q_end_of {s b p : Int} : qOf f_end_of [.tuple [.int s, .int b], .int p] = some (.int (p + s)) := by
  apply qof_of
  unfold f_end_of m_end_of
  simp (maxSteps := 2000000) (disch := omega) [List.getElem?_cons_zero, qOp]
def ocD (x : Int × (Int × Int)) : PD := .tuple [thD x.2, .int x.1]
def swapD : PD → PD
  | .tuple [a, b] => .tuple [b, a]
  | d => d
theorem q_lie {s b p s' b' p' : Int} : qOf f_lie_over [.tuple [.int s, .int b], .int p, .tuple [.int s', .int b'], .int p'] = some (.bool (lieO p s p' s')) := by
  apply qof_of
  unfold f_lie_over m_lie_over
  by_cases h1 : p < p' + s' <;> by_cases h2 : p' < p + s <;> simp [qCall, q_end_of, h1, h2, lieO]
theorem q_least {th : Int × Int} {xs : List (Int × (Int × Int))} (hb : 1 ≤ th.2) (hb2 : th.2 ≤ 64) (hl : xs.length ≤ 1000) : qOf f_least_place [thD th, .list (xs.map ocD)] = some (.int (leastG th xs)) := by
  obtain ⟨s, b⟩ := th
  simp only at hb hb2
  apply qof_of
  unfold f_least_place m_least_place
  rw [wF_defN, wS_seq]
  simp
  rw [wS_seq]
  have l1 : lcGo (fTup 2 (fCons (fName 5) (fCons (fName 6) fNil))) qYes (qTup (qCons (qVar 6) (qCons (qVar 5) qNil))) [.fz (thD (s, b)), .fz (.list (xs.map ocD)), .fz (.int 0), .dead, .dead, .dead, .dead] (xs.map ocD) = some (xs.map encP) := by
    have h := lcGo_map (f := fTup 2 (fCons (fName 5) (fCons (fName 6) fNil))) (e := qTup (qCons (qVar 6) (qCons (qVar 5) qNil))) (ρ := [.fz (thD (s, b)), .fz (.list (xs.map ocD)), .fz (.int 0), .dead, .dead, .dead, .dead]) (h := swapD) (xs := xs.map ocD) fun x m => by
      obtain ⟨y, my, rfl⟩ := List.mem_map.mp m
      refine ⟨_, rfl, ?_⟩
      simp [sizeLine, ocD, swapD]
    rw [h, List.map_map]
    rfl
  have hz : xs.length ≤ 16777216 := by omega
  simp [sizeLine, hz, l1, oSortV_encP]
  have go : ∀ (ys : List (Int × (Int × Int))) (f : Int) (x3 x4 : O), wS (forGo (fTup 2 (fCons (fName 3) (fCons (fName 4) fNil))) (sIf (bLift (qB (qCall (qOf f_lie_over) (qCons (qVar 0) (qCons (qVar 2) (qCons (qVar 4) (qCons (qVar 3) qNil))))))) (sSet 2 (mLift (qCall (qOf f_rounded) (qCons (qCall (qOf f_end_of) (qCons (qVar 4) (qCons (qVar 3) qNil))) (qCons (qOp oIx (qVar 0) (qC (.int 1))) qNil))))) sNext) (ys.map encP) [.fz (thD (s, b)), .fz (.list (xs.map ocD)), .fz (.int f), x3, x4, .dead, .dead])
      (fun ρ => ∃ x3 x4, ρ = [.fz (thD (s, b)), .fz (.list (xs.map ocD)), .fz (.int (leastGo s b f ys)), x3, x4, .dead, .dead]) (fun _ _ => False) (fun _ => False) (fun _ => False) := by
    intro ys
    induction ys with
    | nil => intro f x3 x4; exact ⟨_, _, rfl⟩
    | cons y ys ih =>
      intro f x3 x4
      obtain ⟨p, so, bo⟩ := y
      rw [List.map_cons, wS_forCons]
      refine ⟨_, rfl, ?_⟩
      by_cases c : lieO f s p so = true
      · have e : leastGo s b f ((p, so, bo) :: ys) = leastGo s b (up (p + so) b) ys := by simp [leastGo, c]
        rw [e]
        simp (disch := omega) [thD, qCall, q_lie, c, List.getElem?_cons_zero, q_end_of, q_rounded]
        have := ih (up (p + so) b) (.fz (.int p)) (.fz (.tuple [.int so, .int bo]))
        simpa [thD] using this
      · have c' : lieO f s p so = false := by simpa using c
        have e : leastGo s b f ((p, so, bo) :: ys) = leastGo s b f ys := by simp [leastGo, c']
        rw [e]
        simp [thD, qCall, q_lie, c']
        have := ih f (.fz (.int p)) (.fz (.tuple [.int so, .int bo]))
        simpa [thD] using this
  refine wS_mono (go (sortP xs) 0 .dead .dead) (fun ρ z => ?_) (fun _ _ z => z.elim) (fun _ z => z.elim) (fun _ z => z.elim)
  obtain ⟨x3, x4, rfl⟩ := z
  simp
  rfl
end FM
namespace FM
open PySem PySem.Spec L2 PyProof.Rows
end FM
namespace FM
open PySem PySem.Spec L2 PyProof.Rows
section
variable {al : Bool} {P : List FE}
/-! ### fields and entries -/
def kT : Str := "things"
def kO : Str := "own_places"
def kH : Str := "held"
def kM : Str := "many"
section
variable {a b c d o : O} {r : List (Str × O)}
theorem pfQ {x y : Str} {o o1 : O} {t : List (Str × O)} (h : x ≠ y) : pfO y o ((x, o1) :: t) = (x, o1) :: pfO y o t := pfO_neg h
theorem luQ {x y : Str} {o : O} {t : List (Str × O)} (h : y ≠ x) : List.lookup x ((y, o) :: t) = List.lookup x t := lu_neg h
@[simp] theorem pf_t0 : pfO "things" o [] = [(kT, o)] := rfl
@[simp] theorem pf_o0 : pfO "own_places" o [(kT, a)] = [(kT, a), (kO, o)] := by rw [pfQ (by decide)]; rfl
@[simp] theorem pf_h0 : pfO "held" o [(kT, a), (kO, b)] = [(kT, a), (kO, b), (kH, o)] := by rw [pfQ (by decide), pfQ (by decide)]; rfl
@[simp] theorem pf_m0 : pfO "many" o [(kT, a), (kO, b), (kH, c)] = [(kT, a), (kO, b), (kH, c), (kM, o)] := by rw [pfQ (by decide), pfQ (by decide), pfQ (by decide)]; rfl
@[simp] theorem pf_t1 : pfO "things" o ((kT, a) :: r) = (kT, o) :: r := pfO_pos rfl
@[simp] theorem pf_o1 : pfO "own_places" o ((kT, a) :: (kO, b) :: r) = (kT, a) :: (kO, o) :: r := by rw [pfQ (by decide)]; exact congrArg (fun z => (kT, a) :: z) (pfO_pos rfl)
@[simp] theorem pf_h1 : pfO "held" o ((kT, a) :: (kO, b) :: (kH, c) :: r) = (kT, a) :: (kO, b) :: (kH, o) :: r := by rw [pfQ (by decide), pfQ (by decide)]; exact congrArg (fun z => (kT, a) :: (kO, b) :: z) (pfO_pos rfl)
@[simp] theorem pf_m1 : pfO "many" o [(kT, a), (kO, b), (kH, c), (kM, d)] = [(kT, a), (kO, b), (kH, c), (kM, o)] := by rw [pfQ (by decide), pfQ (by decide), pfQ (by decide)]; exact congrArg (fun z => (kT, a) :: (kO, b) :: (kH, c) :: z) (pfO_pos rfl)
@[simp] theorem lu_t : List.lookup ("things" : Str) ((kT, a) :: r) = some a := lu_pos rfl
@[simp] theorem lu_o : List.lookup ("own_places" : Str) ((kT, a) :: (kO, b) :: r) = some b := by rw [luQ (by decide)]; exact lu_pos rfl
@[simp] theorem lu_h : List.lookup ("held" : Str) ((kT, a) :: (kO, b) :: (kH, c) :: r) = some c := by rw [luQ (by decide), luQ (by decide)]; exact lu_pos rfl
@[simp] theorem lu_m : List.lookup ("many" : Str) ((kT, a) :: (kO, b) :: (kH, c) :: (kM, d) :: r) = some d := by rw [luQ (by decide), luQ (by decide), luQ (by decide)]; exact lu_pos rfl
theorem lu_no {x : Str} (h1 : kT ≠ x) (h2 : kO ≠ x) (h3 : kH ≠ x) (h4 : kM ≠ x) : List.lookup x [(kT, a), (kO, b), (kH, c), (kM, d)] = none := by rw [luQ h1, luQ h2, luQ h3, luQ h4]; rfl
end
section
variable {a b c d e o : O}
end
/-! ### what lies there: number, thing, place -/
theorem lcGo_enc {α : Type} {f : QG} {e : QE} {ρ : List O} {enc h : α → PD} : ∀ {xs : List α}, (∀ x ∈ xs, ∃ ρ1, f (enc x) ρ = some ρ1 ∧ e ρ1 = some (.fz (h x))) → lcGo f qYes e ρ (xs.map enc) = some (xs.map h)
  | [], _ => rfl
  | x :: xs, hx => by
    obtain ⟨ρ1, h1, h2⟩ := hx x List.mem_cons_self
    have ih := lcGo_enc (xs := xs) fun y m => hx y (List.mem_cons_of_mem _ m)
    rw [List.map_cons, List.map_cons]
    unfold lcGo
    simp only [h1, qYes, h2, ih]
    rfl
theorem lcGo_encC {α : Type} {f : QG} {c : List O → Option Bool} {e : QE} {ρ : List O} {enc h : α → PD} {p : α → Bool} : ∀ {xs : List α}, (∀ x ∈ xs, ∃ ρ1, f (enc x) ρ = some ρ1 ∧ c ρ1 = some (p x) ∧ e ρ1 = some (.fz (h x))) → lcGo f c e ρ (xs.map enc) = some ((xs.filter p).map h)
  | [], _ => rfl
  | x :: xs, hx => by
    obtain ⟨ρ1, h1, h2, h3⟩ := hx x List.mem_cons_self
    have ih := lcGo_encC (xs := xs) fun y m => hx y (List.mem_cons_of_mem _ m)
    rw [List.map_cons, List.filter_cons]
    unfold lcGo
    cases hp : p x with
    | true => rw [hp] at h2; simp only [h1, h2, h3, ih]; rfl
    | false => rw [hp] at h2; simp only [h1, h2, ih]; rfl
abbrev FE := Nat × ((Int × Int) × Int)
def kN (t : Nat) : Key := .inl (t : Int)
def idsF (L : List FE) : List Nat := L.map (·.1)
def mapK (f : FE → PD) (L : List FE) : List (Key × PD) := L.map fun e => (kN e.1, f e)
def thK (L : List FE) : List (Key × PD) := mapK (fun e => thD e.2.1) L
def plK (L : List FE) : List (Key × PD) := mapK (fun e => .int e.2.2) L
def occ (L : List FE) : List (Int × (Int × Int)) := L.map fun e => (e.2.2, e.2.1)
def rmF (L : List FE) (t : Nat) : List FE := L.filter fun e => decide (e.1 ≠ t)
theorem lk_mapK {f : FE → PD} : ∀ {L : List FE} {e : FE}, (idsF L).Nodup → e ∈ L → lk (mapK f L) (.inl (e.1 : Int)) = some (f e)
  | [], _, _, m => by cases m
  | x :: L, e, nd, m => by
    have nd' := List.nodup_cons.mp (show (x.1 :: idsF L).Nodup from nd)
    show lk ((kN x.1, f x) :: mapK f L) _ = _
    rw [lk_cons]
    rcases List.mem_cons.mp m with q | q
    · subst q
      exact if_pos rfl
    · have ne : ¬ kN x.1 = .inl (e.1 : Int) := fun z => by
        have z := Int.ofNat.inj (Sum.inl.inj z)
        exact nd'.1 (by rw [z]; exact List.mem_map.mpr ⟨e, q, rfl⟩)
      rw [if_neg ne]
      exact lk_mapK nd'.2 q
theorem lk_someK {f : FE → PD} {t : Nat} : ∀ {L : List FE}, (lk (mapK f L) (.inl (t : Int))).isSome = decide (t ∈ idsF L)
  | [] => rfl
  | x :: L => by
    show (lk ((kN x.1, f x) :: mapK f L) _).isSome = decide (t ∈ x.1 :: idsF L)
    rw [lk_cons]
    by_cases q : x.1 = t
    · subst q
      rw [if_pos (show kN x.1 = .inl (x.1 : Int) from rfl)]
      simp
    · have ne : ¬ kN x.1 = .inl (t : Int) := fun z => q (Int.ofNat.inj (Sum.inl.inj z))
      rw [if_neg ne, lk_someK (L := L), decide_eq_decide, List.mem_cons]
      exact ⟨.inr, fun z => z.resolve_left fun w => q w.symm⟩
theorem putD_mapK {f : FE → PD} {L : List FE} {e : FE} (h : e.1 ∉ idsF L) : putD (mapK f L) (.inl (e.1 : Int)) (f e) = mapK f (L ++ [e]) := by
  rw [putD_new]
  · simp [mapK, kN]
  · intro p m z
    obtain ⟨x, mx, rfl⟩ := List.mem_map.mp m
    have z := Int.ofNat.inj (Sum.inl.inj z)
    exact h (by rw [← z]; exact List.mem_map.mpr ⟨x, mx, rfl⟩)
theorem dropD_mapK {f : FE → PD} {L : List FE} {t : Nat} : dropD (mapK f L) (.inl (t : Int)) = mapK f (rmF L t) := by
  unfold dropD mapK rmF
  rw [List.filter_map]
  congr 1
  apply List.filter_congr
  intro e _
  show decide (kN e.1 ≠ _) = _
  rw [decide_eq_decide]
  exact not_congr ⟨fun z => Int.ofNat.inj (Sum.inl.inj z), fun z => by rw [z]; rfl⟩
theorem keysD_mapK {f : FE → PD} {L : List FE} : keysD (mapK f L) = L.map fun e => natD e.1 := by
  unfold keysD mapK
  rw [List.map_map]
  rfl
theorem keysP_mapK {f : FE → PD} {L : List FE} : keysP ((mapK f L).map kp) = L.map fun e => natD e.1 := by
  rw [keysP_kp, keysD_mapK]
theorem mapK_len {f : FE → PD} {L : List FE} : (mapK f L).length = L.length := List.length_map _
theorem oIx_dicF {ds : List (Key × PD)} {i : Int} {d : PD} (h : lk ds (.inl i) = some d) : oIx (.fz (.dict (ds.map kp))) (.fz (.int i)) = some (.fz d) := by
  rw [oIx_dict (fun z => by rw [z] at h; cases h), h]
  rfl
theorem oIx_dicO {ds : List (Key × PD)} {i : Int} {d : PD} (h : lk ds (.inl i) = some d) : oIx (.dic ds) (.fz (.int i)) = some (.fz d) := by
  rw [oIx_dic, h]
  rfl
def gN (g : List Nat) : List PD := g.map natD
def flO (L P : List FE) (g : List Nat) (m : Nat) : O := .ins 0 [(kT, .dic (thK L)), (kO, .dic (plK P)), (kH, .lst (gN g)), (kM, .fz (.int (m : Int)))]
structure okF (L P : List FE) (g : List Nat) (m : Nat) : Prop where
  nd : (idsF L).Nodup
  lt : ∀ e ∈ L, e.1 < m
  th : ∀ e ∈ L, 1 ≤ e.2.1.1 ∧ 1 ≤ e.2.1.2 ∧ e.2.1.2 ≤ 64 ∧ 0 ≤ e.2.2
  gn : g.Nodup
  gi : ∀ t ∈ g, t ∈ idsF L
  ml : m ≤ 200
  pm : P.Perm L
theorem okF.len {L : List FE} {g : List Nat} {m : Nat} (h : okF L P g m) : L.length ≤ m := by
  have h1 : (idsF L).length ≤ (List.range m).length := len_le_sub h.nd fun t mt => by
    obtain ⟨e, me, rfl⟩ := List.mem_map.mp mt
    exact List.mem_range.mpr (h.lt e me)
  simpa [idsF] using h1
theorem okF.ndP {L P : List FE} {g : List Nat} {m : Nat} (h : okF L P g m) : (idsF P).Nodup := (h.pm.map _).nodup_iff.mpr h.nd
theorem okF.lkP {L P : List FE} {g : List Nat} {m : Nat} {e : FE} (h : okF L P g m) (me : e ∈ L) : lk (mapK (fun e => .int e.2.2) P) (.inl (e.1 : Int)) = some (.int e.2.2) := lk_mapK h.ndP (h.pm.mem_iff.mpr me)
theorem okF.inP {L P : List FE} {g : List Nat} {m t : Nat} (h : okF L P g m) : t ∈ idsF P ↔ t ∈ idsF L := (h.pm.map _).mem_iff
theorem pair_item {L : List FE} {g : List Nat} {m0 : Nat} {x : FE} (h : okF L P g m0) (m : x ∈ L) : oIx (.fz (.dict ((thK L).map kp))) (.fz (.int (x.1 : Int))) = some (.fz (thD x.2.1)) ∧ oIx (.fz (.dict ((plK P).map kp))) (.fz (.int (x.1 : Int))) = some (.fz (.int x.2.2)) :=
  ⟨oIx_dicF (lk_mapK h.nd m), oIx_dicF (h.lkP m)⟩
theorem immP_occ {L : List FE} : imms ((occ L).map ocD) = true := by
  induction L with
  | nil => rfl
  | cons x L ih =>
    show (imm (ocD (x.2.2, x.2.1)) && imms ((occ L).map ocD)) = true
    rw [ih]
    rfl
theorem come_spec {L : List FE} {g : List Nat} {m : Nat} {s b : Int} {Q : O → List O → Prop} (h : okF L P g m) (hs : 1 ≤ s) (hb : 1 ≤ b) (hb2 : b ≤ 64) (q : Q (.fz (.int (m : Int))) [flO (L ++ [(m, (s, b), leastG (s, b) (occ L))]) (P ++ [(m, (s, b), leastG (s, b) (occ L))]) g (m + 1), .dead, .dead]) : wF (f_Floor_come [flO L P g m, .fz (.int s), .fz (.int b)]) Q := by
  unfold f_Floor_come m_Floor_come
  have hl := h.len
  have hml := h.ml
  have l1 : lcGo (fName 6) qYes (qTup (qCons (qOp oIx (qFld 0 0 "things") (qVar 6)) (qCons (qOp oIx (qFld 0 0 "own_places") (qVar 6)) qNil))) [.ins 0 [(kT, .fz (.dict ((thK L).map kp))), (kO, .fz (.dict ((plK P).map kp))), (kH, .fz (.list (gN g))), (kM, .fz (.int (m : Int)))], .fz (.int s), .fz (.int b), .fz (.tuple [.int s, .int b]), .fz (.int (m : Int)), .dead, .dead] (L.map fun e => natD e.1) = some ((occ L).map ocD) := by
    unfold occ
    rw [List.map_map]
    refine lcGo_enc fun x mx => ?_
    obtain ⟨e1, e2⟩ := pair_item h mx
    refine ⟨_, rfl, ?_⟩
    simp [natD, e1, e2, sizeLine, ocD]
  have hn : m ∉ idsF L := fun z => by
    obtain ⟨e, me, q⟩ := List.mem_map.mp z
    have := h.lt e me
    omega
  have hz : L.length ≤ 16777216 := by omega
  have hz2 : L.length < 16777216 := by omega
  have eq := q_least (th := (s, b)) (xs := occ L) hb hb2 (by simp [occ]; omega)
  have p1 := putD_mapK (f := fun e => thD e.2.1) (L := L) (e := (m, (s, b), leastG (s, b) (occ L))) hn
  have p2 := putD_mapK (f := fun e => .int e.2.2) (L := P) (e := (m, (s, b), leastG (s, b) (occ L))) (fun z => hn (h.inP.mp z))
  have i1 := immP_occ (L := L)
  simp only [thD] at eq
  unfold flO at q ⊢
  rw [wF_defN, wS_seq]
  simp [sizeLine]
  rw [wS_seq]
  simp only [thK, plK] at l1
  simp [keysP_mapK, thK, plK, sizeLine, hz, l1, immP, immO, i1]
  simp only [thD] at p1 p2
  have hk : ∀ f : FE → PD, (mapK f L).length < 16777216 := fun f => by rw [mapK_len]; exact hz2
  have hk2 : ∀ f : FE → PD, (mapK f P).length < 16777216 := fun f => by rw [mapK_len, h.pm.length_eq]; exact hz2
  rw [wS_seq]
  simp [qCall, eq, keyO, hk, hk2, p2, sizeLine]
  rw [wS_seq]
  simp [keyO, hk, hk2, thD, p1, sizeLine]
  rw [wS_seq]
  simp
  simpa [thK, plK, thD] using q
/-! ### the record, frozen -/
@[simp] theorem qVar0_ndc {kvs : List (Key × O)} {ρ : List O} : qVar 0 (.ndc kvs :: ρ) = some (.ndc kvs) := rfl
theorem occ_ok {L : List FE} {g : List Nat} {m : Nat} (h : okF L P g m) : (∀ y ∈ occ L, 1 ≤ y.2.1) ∧ (∀ y ∈ occ L, 0 ≤ y.1) ∧ (occ L).length ≤ 1000 := by
  have hl := h.len
  have hml := h.ml
  refine ⟨fun y my => ?_, fun y my => ?_, by simp [occ]; omega⟩
  · obtain ⟨e, me, rfl⟩ := List.mem_map.mp my
    exact (h.th e me).1
  · obtain ⟨e, me, rfl⟩ := List.mem_map.mp my
    exact (h.th e me).2.2.2
/-! leaving -/
theorem mem_ids {L : List FE} {t : Nat} (h : t ∈ idsF L) : ∃ e ∈ L, e.1 = t := by
  obtain ⟨e, me, q⟩ := List.mem_map.mp h
  exact ⟨e, me, q⟩
theorem look_spec {L : List FE} {g : List Nat} {m t : Nat} {Q : O → List O → Prop} (ht : t ∈ idsF L) (q : Q (.fz .none) [flO L P g m, .dead]) : wF (f_Floor_looked_for [flO L P g m, .fz (.int (t : Int))]) Q := by
  unfold f_Floor_looked_for m_Floor_looked_for
  unfold flO at q ⊢
  simp only [thK, plK] at q ⊢
  rw [wF_defN]
  simp [oNin_dic, lk_someK, ht]
  exact q
def gI (g : List Nat) : List Int := g.map fun t : Nat => (t : Int)
theorem gN_i {g : List Nat} : gN g = (gI g).map .int := by
  unfold gN gI
  rw [List.map_map]
  rfl
theorem mem_gI {g : List Nat} {t : Nat} : (t : Int) ∈ gI g ↔ t ∈ g := by
  unfold gI
  rw [List.mem_map]
  exact ⟨fun ⟨u, mu, e⟩ => by rw [← Int.ofNat.inj e]; exact mu, fun h => ⟨t, h, rfl⟩⟩
theorem oIn_gN {g : List Nat} {t : Nat} : oIn (.fz (.int (t : Int))) (.lst (gN g)) = some (.fz (.bool (decide (t ∈ g)))) := by
  rw [gN_i, oIn_il]
  simp only [mem_gI]
theorem oNin_gN {g : List Nat} {t : Nat} : oNin (.fz (.int (t : Int))) (.lst (gN g)) = some (.fz (.bool (!decide (t ∈ g)))) := by
  have h := oIn_gN (g := g) (t := t)
  unfold oIn at h
  obtain ⟨b, e1, e2⟩ := Option.map_eq_some_iff.mp h
  unfold oNin
  rw [e1]
  cases e2
  rfl
theorem leave_spec {L : List FE} {g : List Nat} {m t : Nat} {Q : O → List O → Prop} (h : okF L P g m) (ht : t ∈ idsF L) (hg : t ∉ g) (q : Q (.fz .none) [flO (rmF L t) (rmF P t) g m, .dead]) : wF (f_Floor_leave [flO L P g m, .fz (.int (t : Int))]) Q := by
  unfold f_Floor_leave m_Floor_leave
  obtain ⟨e, me, rfl⟩ := mem_ids ht
  have e1 := lk_mapK (f := fun e => thD e.2.1) h.nd me
  have e2 := h.lkP me
  have lk := lu_no (a := .dic (thK L)) (b := .dic (plK P)) (c := .lst (gN g)) (d := .fz (.int (m : Int))) (x := "looked_for") (by decide) (by decide) (by decide) (by decide)
  rw [wF_defN, wS_seq]
  unfold flO
  simp [-List.lookup_eq_none_iff, lk]
  refine look_spec ht ?_
  unfold flO at q ⊢
  simp only [thK, plK] at q ⊢
  rw [wS_seq]
  simp [oIn_gN, hg]
  rw [wS_seq]
  simp [keyO, e1, e2, dropD_mapK]
  exact q
theorem give_spec {L : List FE} {g : List Nat} {m t : Nat} {Q : O → List O → Prop} (h : okF L P g m) (ht : t ∈ idsF L) (hg : t ∉ g) (q : Q (.fz .none) [flO L P (g ++ [t]) m, .dead]) : wF (f_Floor_give [flO L P g m, .fz (.int (t : Int))]) Q := by
  unfold f_Floor_give m_Floor_give
  have lk := lu_no (a := .dic (thK L)) (b := .dic (plK P)) (c := .lst (gN g)) (d := .fz (.int (m : Int))) (x := "looked_for") (by decide) (by decide) (by decide) (by decide)
  have hgl : g.length ≤ L.length := by
    have := len_le_sub h.gn h.gi
    simpa [idsF] using this
  have hl := h.len
  have hml := h.ml
  have hz : (gN g).length < 16777216 := by simp [gN]; omega
  rw [wF_defN, wS_seq]
  unfold flO
  simp [-List.lookup_eq_none_iff, lk]
  refine look_spec ht ?_
  unfold flO at q ⊢
  rw [wS_seq]
  simp [oIn_gN, hg]
  have ha : fAppend (gN g) [.int (t : Int)] = some (.none, gN (g ++ [t])) := by 
    have hz' : g.length < 16777216 := by omega
    simp [fAppend, sizeLine, gN, natD, hz']
  simp [ha]
  exact ⟨_, _, ⟨rfl, rfl⟩, q⟩
theorem fstAt_erase {t : Nat} : ∀ {g : List Nat}, t ∈ g → ∃ j, fstAt (t : Int) (gI g) = some j ∧ (gI g).eraseIdx j = gI (g.erase t)
  | [], h => by cases h
  | u :: g, h => by
    by_cases e : u = t
    · subst e
      refine ⟨0, if_pos rfl, ?_⟩
      rw [List.erase_cons_head]
      rfl
    · have ne : ¬ (u : Int) = (t : Int) := fun z => e (Int.ofNat.inj z)
      obtain ⟨j, h1, h2⟩ := fstAt_erase (g := g) ((List.mem_cons.mp h).resolve_left fun z => e z.symm)
      refine ⟨j + 1, ?_, ?_⟩
      · show (if (u : Int) = (t : Int) then some 0 else (fstAt (t : Int) (gI g)).map (· + 1)) = _
        rw [if_neg ne, h1]
        rfl
      · rw [List.erase_cons_tail (by simpa using e)]
        show (u : Int) :: (gI g).eraseIdx j = (u : Int) :: gI (g.erase t)
        rw [h2]
theorem fRem_gN {g : List Nat} {t : Nat} (ht : t ∈ g) : fRem (gN g) [.int (t : Int)] = some (.none, gN (g.erase t)) := by
  obtain ⟨j, h1, h2⟩ := fstAt_erase ht
  rw [gN_i, fRem_i, h1, gN_i, ← h2]
theorem back_spec {L : List FE} {g : List Nat} {m t : Nat} {Q : O → List O → Prop} (h : okF L P g m) (hg : t ∈ g) (q : Q (.fz .none) [flO L P (g.erase t) m, .dead]) : wF (f_Floor_back [flO L P g m, .fz (.int (t : Int))]) Q := by
  unfold f_Floor_back m_Floor_back
  have lk := lu_no (a := .dic (thK L)) (b := .dic (plK P)) (c := .lst (gN g)) (d := .fz (.int (m : Int))) (x := "looked_for") (by decide) (by decide) (by decide) (by decide)
  rw [wF_defN, wS_seq]
  unfold flO
  simp [-List.lookup_eq_none_iff, lk]
  refine look_spec (h.gi t hg) ?_
  unfold flO at q ⊢
  rw [wS_seq]
  simp [oNin_gN, hg, fRem_gN hg]
  exact ⟨_, _, ⟨rfl, rfl⟩, q⟩
end
end FM
namespace FM
open PySem PySem.Spec L2 PyProof.Rows
section
variable {al : Bool} {P : List FE}
theorem places_spec {L : List FE} {g : List Nat} {m : Nat} {Q : O → List O → Prop} (q : Q (.dic (plK P)) [flO L P g m]) : wF (f_Floor_places [flO L P g m]) Q := by
  unfold f_Floor_places m_Floor_places
  rw [wF_defN]
  unfold flO at q ⊢
  simp
  exact q
theorem given_spec {L : List FE} {g : List Nat} {m : Nat} {Q : O → List O → Prop} (q : Q (.lst ((sortI (gI g)).map .int)) [flO L P g m]) : wF (f_Floor_given [flO L P g m]) Q := by
  unfold f_Floor_given m_Floor_given
  rw [wF_defN]
  unfold flO at q ⊢
  have e : oSortV [.lst (gN g)] = some (.lst ((sortI (gI g)).map .int)) := by rw [gN_i]; exact oSortV_i
  simp [e]
  exact q
def endsF (L : List FE) : List Int := L.map fun e => e.2.2 + e.2.1.1
def hiF (L : List FE) : Int := topD 0 (endsF L)
theorem q_heightF {L : List FE} (hl : L.length ≤ 1000) : qOf f_height_things [.list (L.map fun e => thD e.2.1), .list (L.map fun e => .int e.2.2)] = some (.int (hiF L)) := by
  apply qof_of
  unfold f_height_things m_height_things
  have l1 : lcGo (fTup 2 (fCons (fName 2) (fCons (fName 3) fNil))) qYes (qCall (qOf f_end_of) (qCons (qVar 2) (qCons (qVar 3) qNil))) [.fz (.list (L.map fun e => thD e.2.1)), .fz (.list (L.map fun e => .int e.2.2)), .dead, .dead] (zipD (L.map fun e => thD e.2.1) (L.map fun e => .int e.2.2)) = some ((endsF L).map .int) := by
    have e : zipD (L.map fun e => thD e.2.1) (L.map fun e => PyData.int e.2.2) = L.map fun e => .tuple [thD e.2.1, .int e.2.2] := by
      unfold zipD
      rw [List.zipWith_map]
      induction L with
      | nil => rfl
      | cons x L ih => exact congrArg _ (ih (by simp at hl; omega))
    rw [e]
    unfold endsF
    rw [List.map_map]
    refine lcGo_enc fun x mx => ⟨_, rfl, ?_⟩
    simp [qCall, thD, q_end_of]
  have hz : (zipD (L.map fun e => thD e.2.1) (L.map fun e => PyData.int e.2.2)).length ≤ 16777216 := by simp [zipD]; omega
  generalize hzz : zipD (L.map fun e => thD e.2.1) (L.map fun e => PyData.int e.2.2) = zz at l1 hz
  unfold hiF
  generalize endsF L = es at l1 ⊢
  rw [wF_defN]
  simp [hzz, sizeLine, hz, l1]
theorem height_spec {L : List FE} {g : List Nat} {m : Nat} {Q : O → List O → Prop} (h : okF L P g m) (q : Q (.fz (.int (hiF L))) [flO L P g m]) : wF (f_Floor_height [flO L P g m]) Q := by
  unfold f_Floor_height m_Floor_height
  have hl := h.len
  have hml := h.ml
  have hz : L.length ≤ 16777216 := by omega
  have eq := q_heightF (L := L) (by omega)
  have l1 : lcGo (fName 2) qYes (qOp oIx (qFld 0 0 "things") (qVar 2)) [flO L P g m, .fz (.list (L.map fun e => natD e.1)), .dead] (L.map fun e => natD e.1) = some (L.map fun e => thD e.2.1) := by
    refine lcGo_enc fun x mx => ⟨_, rfl, ?_⟩
    have e1 := oIx_dicO (lk_mapK (f := fun e => thD e.2.1) h.nd mx)
    unfold flO
    simp [natD, thK, e1]
  have l2 : lcGo (fName 2) qYes (qOp oIx (qFld 0 0 "own_places") (qVar 2)) [flO L P g m, .fz (.list (L.map fun e => natD e.1)), .dead] (L.map fun e => natD e.1) = some (L.map fun e => .int e.2.2) := by
    refine lcGo_enc fun x mx => ⟨_, rfl, ?_⟩
    have e1 := oIx_dicO (h.lkP mx)
    unfold flO
    simp [natD, plK, e1]
  rw [wF_defN, wS_seq]
  unfold flO at q l1 l2 ⊢
  simp only [thK, plK] at l1 l2 q ⊢
  simp [keysD_mapK, sizeLine]
  simp [sizeLine, hz, l1, l2, qCall, eq]
  exact q
theorem maxI_top {l : List Int} (h : ∀ x ∈ l, 0 ≤ x) : maxI (l ++ [0]) = topD 0 l := by
  obtain ⟨m1, m2⟩ := maxI_is (ns := l ++ [0]) (by simp)
  cases l with
  | nil => rfl
  | cons x r =>
    show _ = r.foldl max x
    rw [← maxI_cons (x := x) (r := r)]
    obtain ⟨n1, n2⟩ := maxI_is (ns := x :: r) (by simp)
    have h1 := m2 _ (List.mem_append_left _ n1)
    rcases List.mem_append.mp m1 with z | z
    · have := n2 _ z
      omega
    · have z := List.mem_singleton.mp z
      have := h _ n1
      omega
theorem topD_perm {l r : List Int} (p : l.Perm r) (h : ∀ x ∈ l, 0 ≤ x) : topD 0 l = topD 0 r := by
  rw [← maxI_top h, ← maxI_top fun x m => h x (p.mem_iff.mpr m)]
  obtain ⟨a1, a2⟩ := maxI_is (ns := l ++ [0]) (by simp)
  obtain ⟨b1, b2⟩ := maxI_is (ns := r ++ [0]) (by simp)
  have q : (l ++ [0]).Perm (r ++ [0]) := p.append_right _
  have h1 := a2 _ (q.mem_iff.mpr b1)
  have h2 := b2 _ (q.mem_iff.mp a1)
  omega
theorem hiF_perm {L P : List FE} (p : P.Perm L) (h : ∀ e ∈ L, 1 ≤ e.2.1.1 ∧ 0 ≤ e.2.2) : hiF P = hiF L := by
  unfold hiF
  refine topD_perm (p.map _) fun x mx => ?_
  obtain ⟨e, me, rfl⟩ := List.mem_map.mp mx
  have := h e (p.mem_iff.mp me)
  omega
theorem okF.hi {L P : List FE} {g : List Nat} {m : Nat} (h : okF L P g m) : hiF P = hiF L := hiF_perm h.pm fun e me => ⟨(h.th e me).1, (h.th e me).2.2.2⟩
theorem sameI_self {L : List FE} (nd : (idsF L).Nodup) : sameI (plK L) (plK L) = true := by
  unfold sameI
  rw [Bool.and_eq_true]
  refine ⟨by simp, List.all_eq_true.mpr fun p mp => ?_⟩
  obtain ⟨e, me, rfl⟩ := List.mem_map.mp mp
  have e2 := lk_mapK (f := fun e => .int e.2.2) nd me
  show (match PyData.int e.2.2, lk (plK L) (kN e.1) with
    | .int i, some (.int j) => i == j
    | _, _ => false) = true
  have e3 : lk (plK L) (kN e.1) = some (.int e.2.2) := e2
  rw [e3]
  simp
end
end FM
namespace FM
open PySem PySem.Spec L2 PyProof.Rows
section
variable {al : Bool} {P : List FE}
/-! ### a deed -/
theorem intK_mapK {f : FE → PD} : ∀ {L : List FE}, intK (mapK f L) = some (gI (idsF L))
  | [] => rfl
  | x :: L => by
    show (intK (mapK f L)).map ((x.1 : Int) :: ·) = some (gI (x.1 :: idsF L))
    rw [intK_mapK]
    rfl
/-- the numbers, in order -/
def srtN (l : List Nat) : List Nat := (sortI (gI l)).map Int.toNat
theorem srtN_i (l : List Nat) : sortI (gI l) = gI (srtN l) := by
  unfold srtN
  have h : ∀ x ∈ sortI (gI l), 0 ≤ x := fun x m => by
    have m := (sortI_perm (gI l)).mem_iff.mp m
    obtain ⟨t, _, rfl⟩ := List.mem_map.mp m
    omega
  generalize sortI (gI l) = xs at h
  unfold gI
  rw [List.map_map]
  induction xs with
  | nil => rfl
  | cons x xs ih =>
    rw [List.map_cons, ← ih fun y m => h y (List.mem_cons_of_mem _ m)]
    have := h x List.mem_cons_self
    congr 1
    show x = ((x.toNat : Nat) : Int)
    omega
theorem srtN_mem {l : List Nat} {t : Nat} : t ∈ srtN l ↔ t ∈ l := by
  have h : (t : Int) ∈ gI (srtN l) ↔ (t : Int) ∈ gI l := by
    rw [← srtN_i]
    exact (sortI_perm _).mem_iff
  rw [mem_gI, mem_gI] at h
  exact h
theorem srtN_len {l : List Nat} : (srtN l).length = l.length := by
  unfold srtN
  rw [List.length_map, (sortI_perm _).length_eq]
  exact List.length_map _
theorem oSortV_th {L : List FE} : oSortV [.dic (thK L)] = some (.lst (gN (srtN (idsF L)))) := by
  rw [gN_i, ← srtN_i]
  refine oSortV_d ?_ ?_
  · rfl
  · show (match dicK (.dic (thK L)) with | some ds => intK ds | none => none) = _
    exact intK_mapK
theorem okF_rm {L : List FE} {g : List Nat} {m t : Nat} (h : okF L P g m) (ht : t ∉ g) : okF (rmF L t) (rmF P t) g m := by
  have sub : ∀ e ∈ rmF L t, e ∈ L := fun e me => (List.mem_filter.mp me).1
  refine ⟨?_, fun e me => h.lt e (sub e me), fun e me => h.th e (sub e me), h.gn, fun u mu => ?_, h.ml, h.pm.filter _⟩
  · unfold idsF rmF
    exact h.nd.sublist (List.Sublist.map _ List.filter_sublist)
  · obtain ⟨e, me, rfl⟩ := mem_ids (h.gi u mu)
    refine List.mem_map.mpr ⟨e, List.mem_filter.mpr ⟨me, ?_⟩, rfl⟩
    rw [decide_eq_true_eq]
    intro z
    exact ht (by rw [← z]; exact mu)
theorem okF_come {L : List FE} {g : List Nat} {m : Nat} {s b : Int} (h : okF L P g m) (hm : m < 200) (hs : 1 ≤ s) (hb : 1 ≤ b) (hb2 : b ≤ 64) : okF (L ++ [(m, (s, b), leastG (s, b) (occ L))]) (P ++ [(m, (s, b), leastG (s, b) (occ L))]) g (m + 1) := by
  obtain ⟨o1, _, _⟩ := occ_ok h
  have l0 := (leastG_is (th := (s, b)) hs hb o1).2.1
  refine ⟨?_, fun e me => ?_, fun e me => ?_, h.gn, fun t mt => ?_, hm, h.pm.append_right _⟩
  · unfold idsF
    rw [List.map_append]
    refine List.nodup_append.mpr ⟨h.nd, by simp, fun x mx y my z => ?_⟩
    obtain ⟨e, me, rfl⟩ := List.mem_map.mp mx
    have := h.lt e me
    have my := List.mem_singleton.mp my
    simp only at my
    omega
  · rcases List.mem_append.mp me with me | me
    · have := h.lt e me; omega
    · rw [List.mem_singleton.mp me]; exact Nat.lt_succ_self _
  · rcases List.mem_append.mp me with me | me
    · exact h.th e me
    · rw [List.mem_singleton.mp me]; exact ⟨hs, hb, hb2, l0⟩
  · obtain ⟨e, me, rfl⟩ := mem_ids (h.gi t mt)
    exact List.mem_map.mpr ⟨e, List.mem_append_left _ me, rfl⟩
theorem okF_give {L : List FE} {g : List Nat} {m t : Nat} (h : okF L P g m) (ht : t ∈ idsF L) (hg : t ∉ g) : okF L P (g ++ [t]) m := by
  refine ⟨h.nd, h.lt, h.th, ?_, fun u mu => ?_, h.ml, h.pm⟩
  · refine List.nodup_append.mpr ⟨h.gn, by simp, fun x mx y my z => ?_⟩
    rw [List.mem_singleton.mp my] at z
    exact hg (by rw [← z]; exact mx)
  · rcases List.mem_append.mp mu with mu | mu
    · exact h.gi u mu
    · rw [List.mem_singleton.mp mu]; exact ht
theorem okF_back {L : List FE} {g : List Nat} {m t : Nat} (h : okF L P g m) : okF L P (g.erase t) m :=
  ⟨h.nd, h.lt, h.th, h.gn.sublist List.erase_sublist, fun u mu => h.gi u (List.mem_of_mem_erase mu), h.ml, h.pm⟩
theorem pickN {l : List Nat} {r : Int} (h0 : 0 ≤ r) (h1 : r < l.length) : ∃ t ∈ l, l[r.toNat]? = some t ∧ atI (gN l) r = some (.int (t : Int)) := by
  have e : r.toNat < l.length := by omega
  refine ⟨l[r.toNat], List.getElem_mem e, List.getElem?_eq_getElem e, ?_⟩
  unfold gN
  rw [atI_nn h0, List.getElem?_map, List.getElem?_eq_getElem e]
  rfl
theorem gN_len {g : List Nat} : (gN g).length = g.length := List.length_map _
theorem oNe_gN0 {x : O} {g : List Nat} (hx : toPD x = some (.list (gN g))) : oNe x (.fz (.list [])) = some (.fz (.bool (!decide (g = [])))) := by
  rw [oNe_ints (l := gI g) (r := []) (by rw [hx, gN_i]) rfl]
  have e : (gI g = []) = (g = []) := propext (by unfold gI; exact List.map_eq_nil_iff)
  simp only [e]
theorem imms_gN {g : List Nat} : imms (gN g) = true := by
  induction g with
  | nil => rfl
  | cons x g ih =>
    show (imm (natD x) && imms (gN g)) = true
    rw [ih]
    rfl
theorem wS_ifB {t : List O → Option Bool} {a b : MS} {ρ : List O} {v : Bool} {nx bk ct : List O → Prop} {rt : O → List O → Prop} (h : t ρ = some v) (h1 : v = true → wS (a ρ) nx rt bk ct) (h2 : v = false → wS (b ρ) nx rt bk ct) : wS (sIf (bLift t) a b ρ) nx rt bk ct := by
  cases v with
  | true => simp [h]; exact h1 rfl
  | false => simp [h]; exact h2 rfl
theorem wS_skip {ρ : List O} {nx bk ct : List O → Prop} {rt : O → List O → Prop} (h : nx ρ) : wS (sNext ρ) nx rt bk ct := h
theorem qAnd_2 {p q : List O → Option Bool} {ρ : List O} {x y : Bool} (b1 : p ρ = some x) (b2 : q ρ = some y) : qAnd p q ρ = some (x && y) := by
  unfold qAnd
  cases x <;> cases y <;> simp [b1, b2]
theorem qOr_and {p q r : List O → Option Bool} {ρ : List O} {x y z : Bool} (b1 : p ρ = some x) (b2 : q ρ = some y) (b3 : r ρ = some z) : qOr (qAnd p q) r ρ = some (x && y || z) := by
  unfold qOr qAnd
  cases x <;> cases y <;> cases z <;> simp [b1, b2, b3]
/-! what holds of things that lie there -/
structure okA (al : Bool) (L : List FE) : Prop where
  hi : ∀ e ∈ L, e.2.1.1 ≤ 10 ^ 9
  bd : ∀ e ∈ L, e.2.2 % e.2.1.2 = 0
  ub : ∀ e ∈ L, e.2.2 ≤ 2 * 10 ^ 11
  sep : L.Pairwise fun e f => lieO e.2.2 e.2.1.1 f.2.2 f.2.1.1 = false
  ak : al = true → ∀ e ∈ L, e.2.1.1 = 8 ∧ (e.2.1.2 = 1 ∨ e.2.1.2 = 2 ∨ e.2.1.2 = 4 ∨ e.2.1.2 = 8) ∧ e.2.2 % 8 = 0
  ln : L.length ≤ 80
theorem okA_nil : okA al [] := ⟨(fun _ m => by cases m), (fun _ m => by cases m), (fun _ m => by cases m), .nil, (fun _ _ m => by cases m), by decide⟩
theorem okA_rm {L : List FE} {t : Nat} (h : okA al L) : okA al (rmF L t) := by
  have sub : ∀ e ∈ rmF L t, e ∈ L := fun e m => (List.mem_filter.mp m).1
  exact ⟨fun e m => h.hi e (sub e m), fun e m => h.bd e (sub e m), fun e m => h.ub e (sub e m), h.sep.sublist List.filter_sublist, fun a e m => h.ak a e (sub e m), Nat.le_trans (List.length_filter_le _ _) h.ln⟩
theorem sum_bound {f : FE → Int} {B : Int} (hB : 0 ≤ B) : ∀ {L : List FE}, (∀ e ∈ L, f e ≤ B) → (L.map f).sum ≤ L.length * B
  | [], _ => by simp
  | x :: L, h => by
    have ih := sum_bound hB (L := L) fun e m => h e (List.mem_cons_of_mem _ m)
    have hx := h x List.mem_cons_self
    rw [List.map_cons, List.sum_cons, List.length_cons]
    have e : ((L.length + 1 : Nat) : Int) * B = L.length * B + B := by
      rw [Int.natCast_add, Int.add_mul]
      simp
    omega
theorem lieO_comm {p s q t : Int} : lieO p s q t = lieO q t p s := by
  unfold lieO
  exact Bool.and_comm _ _
theorem least_ok {L : List FE} {s b : Int} (hp : ∀ e ∈ L, 1 ≤ e.2.1.1 ∧ 0 ≤ e.2.2) (hA : okA al L) (hs : 1 ≤ s) (hs2 : s ≤ 10 ^ 9) (hb : 1 ≤ b) (hb2 : b ≤ 64) : leastG (s, b) (occ L) % b = 0 ∧ 0 ≤ leastG (s, b) (occ L) ∧ leastG (s, b) (occ L) ≤ 2 * 10 ^ 11 ∧ (∀ e ∈ L, lieO e.2.2 e.2.1.1 (leastG (s, b) (occ L)) s = false) ∧ (s = 8 → (b = 1 ∨ b = 2 ∨ b = 4 ∨ b = 8) → (∀ e ∈ L, e.2.1.1 = 8 ∧ e.2.2 % 8 = 0) → leastG (s, b) (occ L) % 8 = 0) := by
  have ho : ∀ y ∈ occ L, 1 ≤ y.2.1 := fun y my => by
    obtain ⟨e, me, rfl⟩ := List.mem_map.mp my
    exact (hp e me).1
  obtain ⟨r1, r2, r3, _, r5⟩ := leastG_is (th := (s, b)) hs hb ho
  refine ⟨r1, r2, ?_, fun e me => ?_, fun h8 hb8 h => ?_⟩
  · have h1 := leastG_le (th := (s, b)) hs hb ho
    simp only [occ, List.map_map] at h1
    have h2 := sum_bound (f := (fun y : Int × (Int × Int) => up (y.2.1 + s - 1) b) ∘ fun e : FE => (e.2.2, e.2.1)) (B := 2000000064) (by decide) (L := L) fun e me => by
      have u := (up_is (e := e.2.1.1 + s - 1) (b := b) (by omega)).2
      have := hA.hi e me
      show up (e.2.1.1 + s - 1) b ≤ _
      omega
    have h3 : (L.length : Int) * 2000000064 ≤ 80 * 2000000064 := Int.mul_le_mul_of_nonneg_right (by have := hA.ln; omega) (by decide)
    unfold occ
    omega
  · have := r3 (e.2.2, e.2.1) (List.mem_map.mpr ⟨e, me, rfl⟩)
    rw [lieO_comm]
    exact this
  · rcases r5 with r5 | ⟨x, mx, r5⟩
    · rw [r5]; rfl
    · obtain ⟨e, me, rfl⟩ := List.mem_map.mp mx
      obtain ⟨h1, h2⟩ := h e me
      simp only at r5
      have u := up_is (e := e.2.2 + e.2.1.1) (b := b) (by omega)
      have um := up_mod (e := e.2.2 + e.2.1.1) (b := b)
      rw [r5]
      generalize up (e.2.2 + e.2.1.1) b = z at u um
      rcases hb8 with rfl | rfl | rfl | rfl <;> omega
theorem okA_add {L : List FE} {t : Nat} {s b : Int} (hp : ∀ e ∈ L, 1 ≤ e.2.1.1 ∧ 0 ≤ e.2.2) (hA : okA al L) (hl : L.length < 80) (hs : 1 ≤ s) (hs2 : s ≤ 10 ^ 9) (hb : 1 ≤ b) (hb2 : b ≤ 64) (hz : al = true → s = 8 ∧ (b = 1 ∨ b = 2 ∨ b = 4 ∨ b = 8)) : okA al (L ++ [(t, (s, b), leastG (s, b) (occ L))]) := by
  obtain ⟨r1, r2, r3, r4, r5⟩ := least_ok hp hA hs hs2 hb hb2
  have both : ∀ {P : FE → Prop}, (∀ e ∈ L, P e) → P (t, (s, b), leastG (s, b) (occ L)) → ∀ e ∈ L ++ [(t, (s, b), leastG (s, b) (occ L))], P e := fun h1 h2 e m => by
    rcases List.mem_append.mp m with m | m
    · exact h1 e m
    · rw [List.mem_singleton.mp m]; exact h2
  refine ⟨both hA.hi hs2, both hA.bd r1, both hA.ub r3, ?_, fun a => both (hA.ak a) ⟨(hz a).1, (hz a).2, r5 (hz a).1 (hz a).2 fun e m => ⟨(hA.ak a e m).1, (hA.ak a e m).2.2⟩⟩, by simp; omega⟩
  refine List.pairwise_append.mpr ⟨hA.sep, List.pairwise_singleton _ _, fun e me f mf => ?_⟩
  rw [List.mem_singleton.mp mf]
  exact r4 e me
end
end FM
namespace FM
open PySem PySem.Spec L2 PyProof.Rows
/-! ### all put anew -/
section
variable {al : Bool} {P : List FE}
def encQ (e : FE) : PD := .tuple [.int (-e.2.1.1), .int (e.1 : Int)]
def sortQ (xs : List FE) : List FE := xs.mergeSort (PySem.W.dataLe false encQ)
theorem sortQ_perm (xs : List FE) : (sortQ xs).Perm xs := List.mergeSort_perm _ _
theorem sortD_encQ (xs : List FE) : sortD (xs.map encQ) = (sortQ xs).map encQ := (PySem.W.sort_maps (r := PySem.W.dataLe false encQ) (s := PySem.W.dataLe false id) encQ fun _ _ _ _ => rfl).symm
theorem sortC_encQ (xs : List FE) : sortC (xs.map encQ) = true := by
  unfold sortC
  simp only [Bool.and_eq_true, Bool.or_eq_true, List.all_eq_true, List.mem_map, forall_exists_index, and_imp, forall_apply_eq_imp_iff₂, decide_eq_true_eq]
  refine ⟨⟨fun x _ y _ => ?_, .inl fun x _ => rfl⟩, fun x _ => ⟨?_, ?_⟩⟩
  · simp [encQ, PySem.W.alike, PySem.W.alikeAll]
  · simp [encQ, PyData.depth, PyData.depthAll]
  · simp [encQ, PyData.canLay0, PyData.canLayAll0]
theorem oSortV_encQ (xs : List FE) : oSortV [.fz (.list (xs.map encQ))] = some (.lst ((sortQ xs).map encQ)) := by
  have h : oSortU [.fz (.list (xs.map encQ))] = some (.lst ((sortQ xs).map encQ)) := by
    cases xs with
    | nil => simp [oSortU, seqL, sortI, sortQ]
    | cons x xs =>
      have e : intsD ((x :: xs).map encQ) = none := rfl
      show (match intsD ((x :: xs).map encQ) with | some ns => some (O.lst ((sortI ns).map .int)) | none => if sortC ((x :: xs).map encQ) then some (.lst (sortD ((x :: xs).map encQ))) else none) = _
      rw [e]
      simp only [sortC_encQ, sortD_encQ, if_true]
  unfold oSortV
  simp only [h]
def entF (L : List FE) (t : Nat) : FE := (L.find? fun e => decide (e.1 = t)).getD (0, (1, 1), 0)
theorem entF_is {L : List FE} {t : Nat} (h : t ∈ idsF L) : entF L t ∈ L ∧ (entF L t).1 = t := by
  obtain ⟨e, me, et⟩ := mem_ids h
  unfold entF
  cases c : L.find? fun e => decide (e.1 = t) with
  | none =>
    have := List.find?_eq_none.mp c e me
    simp [et] at this
  | some x =>
    refine ⟨List.mem_of_find?_eq_some c, ?_⟩
    have := List.find?_some c
    simpa using this
def heldG (L : List FE) (g : List Nat) : List FE := g.map (entF L)
def restG (L : List FE) (g : List Nat) : List FE := sortQ (L.filter fun e => !decide (e.1 ∈ g))
def addG (F : List FE) (e : FE) : List FE := F ++ [(e.1, e.2.1, leastG e.2.1 (occ F))]
def anewG (L : List FE) (g : List Nat) : List FE := (restG L g).foldl addG (heldG L g)
/-- some of L, put elsewhere -/
structure ofL (L F : List FE) : Prop where
  nd : (idsF F).Nodup
  th : ∀ f ∈ F, ∃ e ∈ L, e.1 = f.1 ∧ e.2.1 = f.2.1
theorem heldG_of {L : List FE} {g : List Nat} {m : Nat} (h : okF L P g m) : ofL L (heldG L g) ∧ idsF (heldG L g) = g := by
  have e : idsF (heldG L g) = g := by
    unfold idsF heldG
    rw [List.map_map]
    refine (List.map_congr_left fun t mt => ?_).trans (List.map_id _)
    exact (entF_is (h.gi t mt)).2
  refine ⟨⟨by rw [e]; exact h.gn, fun f mf => ?_⟩, e⟩
  obtain ⟨t, mt, rfl⟩ := List.mem_map.mp mf
  exact ⟨_, (entF_is (h.gi t mt)).1, rfl, rfl⟩
theorem addG_ids {F : List FE} {e : FE} : idsF (addG F e) = idsF F ++ [e.1] := by simp [addG, idsF]
theorem addG_of {L F : List FE} {e : FE} (h : ofL L F) (me : e ∈ L) (hn : e.1 ∉ idsF F) : ofL L (addG F e) := by
  refine ⟨?_, fun f mf => ?_⟩
  · rw [addG_ids]
    refine List.nodup_append.mpr ⟨h.nd, by simp, fun x mx y my z => ?_⟩
    rw [List.mem_singleton.mp my] at z
    exact hn (by rw [← z]; exact mx)
  · rcases List.mem_append.mp mf with mf | mf
    · exact h.th f mf
    · rw [List.mem_singleton.mp mf]; exact ⟨e, me, rfl, rfl⟩
theorem ofL_len {L F : List FE} (h : ofL L F) : F.length ≤ L.length := by
  have : (idsF F).length ≤ (idsF L).length := len_le_sub h.nd fun t mt => by
    obtain ⟨f, mf, rfl⟩ := mem_ids mt
    obtain ⟨e, me, h1, _⟩ := h.th f mf
    rw [← h1]
    exact List.mem_map.mpr ⟨e, me, rfl⟩
  simpa [idsF] using this
theorem lk_ofL {L F : List FE} {f : FE} (nd : (idsF L).Nodup) (h : ofL L F) (mf : f ∈ F) : lk (thK L) (.inl (f.1 : Int)) = some (thD f.2.1) := by
  obtain ⟨e, me, h1, h2⟩ := h.th f mf
  rw [← h1, ← h2]
  exact lk_mapK nd me
/-- the first ones of the rest are put -/
def fwdG (L : List FE) (g : List Nat) (i : Nat) : List FE := ((restG L g).take i).foldl addG (heldG L g)
theorem fwd_succ {L : List FE} {g : List Nat} {i : Nat} {e : FE} (ee : (restG L g)[i]? = some e) : fwdG L g (i + 1) = addG (fwdG L g i) e := by
  unfold fwdG
  obtain ⟨hi, rfl⟩ := List.getElem?_eq_some_iff.mp ee
  rw [← List.take_concat_get hi, List.concat_eq_append, List.foldl_append]
  rfl
theorem rest_mem {L : List FE} {g : List Nat} {e : FE} : e ∈ restG L g ↔ e ∈ L ∧ e.1 ∉ g := by
  unfold restG
  rw [(sortQ_perm _).mem_iff, List.mem_filter]
  simp
theorem rest_nd {L : List FE} {g : List Nat} (nd : (idsF L).Nodup) : (idsF (restG L g)).Nodup := by
  unfold idsF restG
  refine ((sortQ_perm _).map _).nodup_iff.mpr ?_
  exact nd.sublist (List.Sublist.map _ List.filter_sublist)
theorem fwd_ids {L : List FE} {g : List Nat} {m : Nat} (h : okF L P g m) : ∀ i, idsF (fwdG L g i) = g ++ idsF ((restG L g).take i) := by
  intro i
  unfold fwdG
  have : ∀ (l F : List FE), idsF (l.foldl addG F) = idsF F ++ idsF l := fun l => by
    induction l with
    | nil => intro F; simp [idsF]
    | cons x l ih =>
      intro F
      rw [List.foldl_cons, ih, addG_ids]
      simp [idsF]
  rw [this, (heldG_of h).2]
theorem fwd_of {L : List FE} {g : List Nat} {m : Nat} (h : okF L P g m) : ∀ i, ofL L (fwdG L g i)
  | 0 => (heldG_of h).1
  | i + 1 => by
    have ih := fwd_of h i
    cases c : (restG L g)[i]? with
    | none =>
      have e : fwdG L g (i + 1) = fwdG L g i := by
        unfold fwdG
        rw [List.take_of_length_le (by have := List.getElem?_eq_none_iff.mp c; omega), List.take_of_length_le (List.getElem?_eq_none_iff.mp c)]
      rw [e]
      exact ih
    | some e =>
      rw [fwd_succ c]
      obtain ⟨m1, m2⟩ := rest_mem.mp (List.mem_of_getElem? c)
      refine addG_of ih m1 fun z => ?_
      rw [fwd_ids h i] at z
      rcases List.mem_append.mp z with z | z
      · exact m2 z
      · obtain ⟨f, mf, ef⟩ := mem_ids z
        have nd := rest_nd (g := g) h.nd
        have ei : (idsF (restG L g))[i]? = some e.1 := by unfold idsF; rw [List.getElem?_map, c]; rfl
        obtain ⟨n1, _⟩ := nodup_at nd ei
        have e2 : idsF ((restG L g).take i) = (idsF (restG L g)).take i := by unfold idsF; rw [List.map_take]
        rw [← e2] at n1
        exact n1 z
end
end FM
namespace FM
open PySem PySem.Spec L2 PyProof.Rows
/-! ### all put anew: the floor's and the law's -/
section
variable {al : Bool} {P : List FE}
def prK (e : FE) : PD := .tuple [.int (e.1 : Int), .int e.2.2]
theorem unkI_pr : ∀ {F : List FE}, unkI (F.map prK) = some (plK F)
  | [] => rfl
  | x :: F => by
    show (unkI (F.map prK)).map (fun z => (Sum.inl (x.1 : Int), PyData.int x.2.2) :: z) = some (plK (x :: F))
    rw [unkI_pr]
    rfl
theorem plK_keys {F : List FE} (nd : (idsF F).Nodup) : ((plK F).map (·.1)).Nodup := by
  have e : (plK F).map (·.1) = (idsF F).map kN := by
    unfold plK mapK idsF
    rw [List.map_map, List.map_map]
    rfl
  rw [e]
  exact List.Pairwise.map _ (fun a b n q => n (Int.ofNat.inj (Sum.inl.inj q))) nd
theorem oDictI_pr {F : List FE} (nd : (idsF F).Nodup) : oDictI [.fz (.list (F.map prK))] = some (.dic (plK F)) := oDictI_eq unkI_pr (plK_keys nd)
theorem heldG_gN {L : List FE} {g : List Nat} {m : Nat} (h : okF L P g m) : gN g = (heldG L g).map fun e => natD e.1 := by
  have e := (heldG_of h).2
  have t : gN (idsF (heldG L g)) = (heldG L g).map fun e => natD e.1 := by
    unfold gN idsF
    rw [List.map_map]
    rfl
  rw [e] at t
  exact t
theorem filter_gN {L : List FE} {p : FE → Bool} : (L.filter p).map (fun e => natD e.1) = gN (idsF (L.filter p)) := by
  unfold gN idsF
  rw [List.map_map]
  rfl
theorem putD_fwd {L : List FE} {g : List Nat} {m i : Nat} {e : FE} (h : okF L P g m) (ee : (restG L g)[i]? = some e) : putD (plK (fwdG L g i)) (.inl (e.1 : Int)) (.int (leastG e.2.1 (occ (fwdG L g i)))) = plK (fwdG L g (i + 1)) := by
  have hn : e.1 ∉ idsF (fwdG L g i) := fun z => by
    have nd := (fwd_of h (i + 1)).nd
    rw [fwd_succ ee, addG_ids] at nd
    exact (List.nodup_append.mp nd).2.2 _ z _ (by simp) rfl
  have := putD_mapK (f := fun e => .int e.2.2) (L := fwdG L g i) (e := (e.1, e.2.1, leastG e.2.1 (occ (fwdG L g i)))) hn
  rw [fwd_succ ee]
  exact this
theorem occ_ofL {L F : List FE} {g : List Nat} {m : Nat} (h : okF L P g m) (hF : ofL L F) : (∀ y ∈ occ F, 1 ≤ y.2.1) ∧ (occ F).length ≤ 1000 := by
  have hl := h.len
  have hml := h.ml
  have hf := ofL_len hF
  refine ⟨fun y my => ?_, by simp [occ]; omega⟩
  obtain ⟨f, mf, rfl⟩ := List.mem_map.mp my
  obtain ⟨e, me, h1, h2⟩ := hF.th f mf
  have := (h.th e me).1
  rw [h2] at this
  exact this
theorem keysP_th {L : List FE} : keysP ((thK L).map kp) = L.map fun e => natD e.1 := keysP_mapK
theorem keysP_pl {L : List FE} : keysP ((plK L).map kp) = L.map fun e => natD e.1 := keysP_mapK
theorem anew_floor {L : List FE} {g : List Nat} {m : Nat} {Q : O → List O → Prop} (h : okF L P g m) (q : Q (.dic (plK (anewG L g))) [flO L P g m]) : wF (f_Floor_placed_anew [flO L P g m]) Q := by
  unfold f_Floor_placed_anew m_Floor_placed_anew
  have hl := h.len
  have hml := h.ml
  obtain ⟨hH, hHi⟩ := heldG_of h
  have hgl : (heldG L g).length ≤ 1000 := by
    have := ofL_len hH
    omega
  have l1 : lcGo (fName 2) qYes (qTup (qCons (qVar 2) (qCons (qOp oIx (qFld 0 0 "own_places") (qVar 2)) qNil))) [flO L P g m, .dead, .dead, .dead, .dead, .dead] (gN g) = some ((heldG L g).map prK) := by
    rw [heldG_gN h]
    refine lcGo_enc fun x mx => ⟨_, rfl, ?_⟩
    obtain ⟨t, mt, rfl⟩ := List.mem_map.mp mx
    have e1 := oIx_dicO (h.lkP (entF_is (h.gi t mt)).1)
    unfold flO
    simp [natD, plK, e1, sizeLine, prK]
  have l2 : ∀ x1 : List (Key × PD), lcGo (fName 2) (qB (qOp oNin (qVar 2) (qFld 0 0 "held"))) (qVar 2) [.ins 0 [(kT, .fz (.dict ((thK L).map kp))), (kO, .fz (.dict ((plK P).map kp))), (kH, .fz (.list (gN g))), (kM, .fz (.int (m : Int)))], .fz (.dict (x1.map kp)), .dead, .dead, .dead, .dead] (L.map fun e => natD e.1) = some ((L.filter fun e => !decide (e.1 ∈ g)).map fun e => natD e.1) := fun x1 => by
    refine lcGo_encC fun x mx => ⟨_, rfl, ?_, ?_⟩
    · have := oNin_gN (g := g) (t := x.1)
      have e2 : oNin (.fz (.int (x.1 : Int))) (.fz (.list (gN g))) = some (.fz (.bool (!decide (x.1 ∈ g)))) := this
      simp [natD, e2]
    · simp [natD]
  have l3 : ∀ x1 : O, lcGo (fName 2) qYes (qTup (qCons (qUn oNeg (qOp oIx (qOp oIx (qFld 0 0 "things") (qVar 2)) (qC (.int 0)))) (qCons (qVar 2) qNil))) [flO L P g m, x1, .dead, .fz (.list ((L.filter fun e => !decide (e.1 ∈ g)).map fun e => natD e.1)), .dead, .dead] ((L.filter fun e => !decide (e.1 ∈ g)).map fun e => natD e.1) = some ((L.filter fun e => !decide (e.1 ∈ g)).map encQ) := fun x1 => by
    refine lcGo_enc fun x mx => ⟨_, rfl, ?_⟩
    have e1 : oIx (.dic (thK L)) (.fz (.int (x.1 : Int))) = some (.fz (.tuple [.int x.2.1.1, .int x.2.1.2])) := oIx_dicO (lk_mapK (f := fun e => thD e.2.1) h.nd (List.mem_filter.mp mx).1)
    unfold flO
    simp [natD, e1, sizeLine, encQ]
  rw [wF_defN, wS_seq]
  unfold flO at q l1 l3 ⊢
  have hz : g.length ≤ 16777216 := by
    have : (gN g).length = (heldG L g).length := by rw [heldG_gN h, List.length_map]
    rw [gN_len] at this
    omega
  have l2' := l2 (plK (heldG L g))
  have hfl : (L.filter fun e => !decide (e.1 ∈ g)).length ≤ L.length := List.length_filter_le _ _
  have im : imms ((L.filter fun e => !decide (e.1 ∈ g)).map fun e => natD e.1) = true := by rw [filter_gN]; exact imms_gN
  have hz2 : L.length ≤ 16777216 := by omega
  simp [sizeLine, gN_len, hz, l1, oDictI_pr hH.nd]
  rw [wS_seq]
  simp [keysP_th, sizeLine, hz2, l2', immP, immO, im]
  rw [wS_seq]
  have hz3 : (L.filter fun e => !decide (e.1 ∈ g)).length ≤ 16777216 := by omega
  have l3' := l3 (.dic (plK (heldG L g)))
  simp [sizeLine, hz3, l3', oSortV_encQ]
  refine wS_forI (xs := (restG L g).map encQ) (fun i ρ => ∃ x2 x4, ρ = [.ins 0 [(kT, .dic (thK L)), (kO, .dic (plK P)), (kH, .lst (gN g)), (kM, .fz (.int (m : Int)))], .dic (plK (fwdG L g i)), x2, .fz (.list ((L.filter fun e => !decide (e.1 ∈ g)).map fun e => natD e.1)), x4, .dead]) ⟨_, _, rfl⟩ ?_ ?_
  · rintro i x ρ ex ⟨x2, x4, rfl⟩
    rw [List.getElem?_map] at ex
    obtain ⟨e, ee, rfl⟩ := Option.map_eq_some_iff.mp ex
    have hF := fwd_of h i
    have me := (rest_mem.mp (List.mem_of_getElem? ee)).1
    have et : oIx (.dic (thK L)) (.fz (.int (e.1 : Int))) = some (.fz (thD e.2.1)) := oIx_dicO (lk_mapK (f := fun e => thD e.2.1) h.nd me)
    have hFl : (fwdG L g i).length ≤ 1000 := by
      have := ofL_len hF
      omega
    have l4 : ∀ (y3 y4 : O), lcGo (fName 5) qYes (qTup (qCons (qOp oIx (qFld 0 0 "things") (qVar 5)) (qCons (qOp oIx (qVar 1) (qVar 5)) qNil))) [.ins 0 [(kT, .fz (.dict ((thK L).map kp))), (kO, .fz (.dict ((plK P).map kp))), (kH, .fz (.list (gN g))), (kM, .fz (.int (m : Int)))], .fz (.dict ((plK (fwdG L g i)).map kp)), .fz (.int (e.1 : Int)), y3, y4, .dead] ((fwdG L g i).map fun e => natD e.1) = some ((occ (fwdG L g i)).map ocD) := fun y3 y4 => by
      unfold occ
      rw [List.map_map]
      refine lcGo_enc fun f mf => ⟨_, rfl, ?_⟩
      have e1 := oIx_dicF (lk_ofL h.nd hF mf)
      have e2 := oIx_dicF (lk_mapK (f := fun e => .int e.2.2) hF.nd mf)
      have e2 : oIx (.fz (.dict ((plK (fwdG L g i)).map kp))) (.fz (.int (f.1 : Int))) = some (.fz (.int f.2.2)) := e2
      simp [natD, e1, e2, sizeLine, ocD]
    obtain ⟨o1, o2⟩ := occ_ofL h hF
    obtain ⟨s1, b1, b2, _⟩ := h.th e me
    have el := q_least (th := e.2.1) (xs := occ (fwdG L g i)) b1 b2 o2
    have i1 := immP_occ (L := fwdG L g i)
    have hp := putD_fwd h ee
    have hk : (plK (fwdG L g i)).length < 16777216 := by unfold plK; rw [mapK_len]; omega
    have hz5 : (fwdG L g i).length ≤ 16777216 := by omega
    generalize hFF : fwdG L g i = F at *
    refine ⟨_, rfl, ?_⟩
    simp [et, keysP_pl, l4, sizeLine, hz5, immP, immO, i1, qCall, el, keyO, hk, hp]
  · rintro ρ ⟨x2, x4, rfl⟩
    have e : fwdG L g ((restG L g).map encQ).length = anewG L g := by
      unfold fwdG anewG
      rw [List.length_map, List.take_length]
    rw [e]
    exact ⟨_, rfl, q⟩
end
end FM
namespace FM
open PySem PySem.Spec L2 PyProof.Rows
section
variable {al : Bool} {P : List FE}
theorem heldG_pl {L : List FE} {g : List Nat} {m : Nat} (h : okF L P g m) : ∀ e ∈ heldG L g, e ∈ L := fun e me => by
  obtain ⟨t, mt, rfl⟩ := List.mem_map.mp me
  exact (entF_is (h.gi t mt)).1
theorem fwd_pos {L : List FE} {g : List Nat} {m : Nat} (h : okF L P g m) : ∀ i, ∀ f ∈ fwdG L g i, 0 ≤ f.2.2
  | 0, f, mf => (h.th f (heldG_pl h f mf)).2.2.2
  | i + 1, f, mf => by
    cases c : (restG L g)[i]? with
    | none =>
      have e : fwdG L g (i + 1) = fwdG L g i := by
        unfold fwdG
        rw [List.take_of_length_le (by have := List.getElem?_eq_none_iff.mp c; omega), List.take_of_length_le (List.getElem?_eq_none_iff.mp c)]
      rw [e] at mf
      exact fwd_pos h i f mf
    | some e =>
      rw [fwd_succ c] at mf
      rcases List.mem_append.mp mf with mf | mf
      · exact fwd_pos h i f mf
      · rw [List.mem_singleton.mp mf]
        have me := (rest_mem.mp (List.mem_of_getElem? c)).1
        obtain ⟨s1, b1, _, _⟩ := h.th e me
        exact (leastG_is (th := e.2.1) s1 b1 (occ_ofL h (fwd_of h i)).1).2.1
theorem fwd_all {L : List FE} {g : List Nat} : fwdG L g (restG L g).length = anewG L g := by
  unfold fwdG anewG
  rw [List.take_length]
end
end FM
namespace FM
open PySem PySem.Spec L2 PyProof.Rows
/-! ### where all come to lie -/
section
variable {al : Bool} {P : List FE}
theorem sep_all {F : List FE} (s : F.Pairwise fun e f => lieO e.2.2 e.2.1.1 f.2.2 f.2.1.1 = false) {e f : FE} (me : e ∈ F) (mf : f ∈ F) (ne : e.1 ≠ f.1) : lieO e.2.2 e.2.1.1 f.2.2 f.2.1.1 = false := by
  induction F with
  | nil => cases me
  | cons x F ih =>
    obtain ⟨s1, s2⟩ := List.pairwise_cons.mp s
    rcases List.mem_cons.mp me with e1 | m1
    · rcases List.mem_cons.mp mf with e2 | m2
      · exact absurd (by rw [e1, e2]) ne
      · rw [e1]; exact s1 f m2
    · rcases List.mem_cons.mp mf with e2 | m2
      · rw [lieO_comm, e2]; exact s1 e m1
      · exact ih s2 m1 m2
theorem held_ok {L : List FE} {g : List Nat} {m : Nat} (h : okF L P g m) (hA : okA al L) : okA al (heldG L g) := by
  have sub := heldG_pl h
  refine ⟨fun e me => hA.hi e (sub e me), fun e me => hA.bd e (sub e me), fun e me => hA.ub e (sub e me), ?_, fun a e me => hA.ak a e (sub e me), Nat.le_trans (ofL_len (heldG_of h).1) hA.ln⟩
  have nd := (heldG_of h).1.nd
  have all : ∀ e ∈ heldG L g, ∀ f ∈ heldG L g, e.1 ≠ f.1 → lieO e.2.2 e.2.1.1 f.2.2 f.2.1.1 = false := fun e me f mf ne => sep_all hA.sep (sub e me) (sub f mf) ne
  have nd' : (heldG L g).Pairwise fun e f => e.1 ≠ f.1 := List.pairwise_map.mp nd
  exact List.Pairwise.imp_of_mem (fun {e f} me mf ne => all e me f mf ne) nd'
theorem fwd_ok {L : List FE} {g : List Nat} {m : Nat} (h : okF L P g m) (hA : okA al L) : ∀ i, okA al (fwdG L g i)
  | 0 => held_ok h hA
  | i + 1 => by
    have ih := fwd_ok h hA i
    cases c : (restG L g)[i]? with
    | none =>
      have e : fwdG L g (i + 1) = fwdG L g i := by
        unfold fwdG
        rw [List.take_of_length_le (by have := List.getElem?_eq_none_iff.mp c; omega), List.take_of_length_le (List.getElem?_eq_none_iff.mp c)]
      rw [e]
      exact ih
    | some e =>
      have me := (rest_mem.mp (List.mem_of_getElem? c)).1
      have lt : (fwdG L g (i + 1)).length ≤ 80 := Nat.le_trans (ofL_len (fwd_of h (i + 1))) hA.ln
      rw [fwd_succ c] at lt ⊢
      have lt2 : (fwdG L g i).length < 80 := by
        have : (addG (fwdG L g i) e).length = (fwdG L g i).length + 1 := by simp [addG]
        omega
      obtain ⟨s1, b1, b2, _⟩ := h.th e me
      have hp : ∀ f ∈ fwdG L g i, 1 ≤ f.2.1.1 ∧ 0 ≤ f.2.2 := fun f mf => by
        obtain ⟨x, mx, _, h2⟩ := (fwd_of h i).th f mf
        have := (h.th x mx).1
        rw [h2] at this
        exact ⟨this, fwd_pos h i f mf⟩
      exact okA_add (t := e.1) (s := e.2.1.1) (b := e.2.1.2) hp ih lt2 s1 (hA.hi e me) b1 b2 fun a => ⟨(hA.ak a e me).1, (hA.ak a e me).2.1⟩
theorem anew_ok {L : List FE} {g : List Nat} {m : Nat} (h : okF L P g m) (hA : okA al L) : okA al (anewG L g) := by
  rw [← fwd_all]
  exact fwd_ok h hA _
theorem anew_of {L : List FE} {g : List Nat} {m : Nat} (h : okF L P g m) : ofL L (anewG L g) := by
  rw [← fwd_all]
  exact fwd_of h _
theorem anew_pos {L : List FE} {g : List Nat} {m : Nat} (h : okF L P g m) : ∀ f ∈ anewG L g, 0 ≤ f.2.2 := by
  rw [← fwd_all]
  exact fwd_pos h _
theorem anew_ids {L : List FE} {g : List Nat} {m : Nat} (h : okF L P g m) {t : Nat} : t ∈ idsF (anewG L g) ↔ t ∈ idsF L := by
  rw [← fwd_all, fwd_ids h, List.take_length, List.mem_append]
  constructor
  · rintro (z | z)
    · exact h.gi t z
    · obtain ⟨e, me, rfl⟩ := mem_ids z
      exact List.mem_map.mpr ⟨e, (rest_mem.mp me).1, rfl⟩
  · intro z
    by_cases c : t ∈ g
    · exact .inl c
    · obtain ⟨e, me, rfl⟩ := mem_ids z
      exact .inr (List.mem_map.mpr ⟨e, rest_mem.mpr ⟨me, c⟩, rfl⟩)
/-- the same things, at their new places -/
def atNew (L : List FE) (g : List Nat) : List FE := L.map fun e => entF (anewG L g) e.1
theorem anew_ent {L : List FE} {g : List Nat} {m : Nat} (h : okF L P g m) {e : FE} (me : e ∈ L) : entF (anewG L g) e.1 ∈ anewG L g ∧ (entF (anewG L g) e.1).1 = e.1 ∧ (entF (anewG L g) e.1).2.1 = e.2.1 := by
  obtain ⟨h1, h2⟩ := entF_is ((anew_ids h).mpr (List.mem_map.mpr ⟨e, me, rfl⟩))
  refine ⟨h1, h2, ?_⟩
  obtain ⟨x, mx, x1, x2⟩ := (anew_of h).th _ h1
  have : x = e := by
    have l1 := lk_mapK (f := fun e => .tuple [thD e.2.1, .int e.2.2]) h.nd mx
    have l2 := lk_mapK (f := fun e => .tuple [thD e.2.1, .int e.2.2]) h.nd me
    rw [x1, h2, l2] at l1
    simp only [thD, Option.some.injEq, PyData.tuple.injEq, List.cons.injEq, PyData.int.injEq, and_true] at l1
    obtain ⟨xa, ⟨xb, xc⟩, xd⟩ := x
    obtain ⟨ea, ⟨eb, ec⟩, ed⟩ := e
    simp only at l1 x1 h2
    obtain ⟨⟨q1, q2⟩, q3⟩ := l1
    subst q1 q2 q3
    rw [show xa = ea from by rw [x1]; exact h2]
  rw [← x2, this]
theorem atNew_ids {L : List FE} {g : List Nat} {m : Nat} (h : okF L P g m) : idsF (atNew L g) = idsF L := by
  unfold idsF atNew
  rw [List.map_map]
  exact List.map_congr_left fun e me => (anew_ent h me).2.1
theorem atNew_th {L : List FE} {g : List Nat} {m : Nat} (h : okF L P g m) : thK (atNew L g) = thK L := by
  unfold thK mapK atNew
  rw [List.map_map]
  refine List.map_congr_left fun e me => ?_
  obtain ⟨_, h2, h3⟩ := anew_ent h me
  show (kN (entF (anewG L g) e.1).1, thD (entF (anewG L g) e.1).2.1) = _
  rw [h2, h3]
theorem perm_ids {F K : List FE} (n1 : (idsF F).Nodup) (n2 : (idsF K).Nodup) (h : ∀ e, e ∈ F ↔ e ∈ K) : F.Perm K := by
  have m1 : F.Nodup := List.Pairwise.imp (fun {a b} q z => q (congrArg (·.1) z)) (List.pairwise_map.mp n1)
  have m2 : K.Nodup := List.Pairwise.imp (fun {a b} q z => q (congrArg (·.1) z)) (List.pairwise_map.mp n2)
  exact (List.perm_ext_iff_of_nodup m1 m2).mpr h
theorem ent_self {F : List FE} (nd : (idsF F).Nodup) {e : FE} (me : e ∈ F) : entF F e.1 = e := by
  induction F with
  | nil => cases me
  | cons x F ih =>
    obtain ⟨n1, n2⟩ := List.nodup_cons.mp (show (x.1 :: idsF F).Nodup from nd)
    unfold entF
    rw [List.find?_cons]
    rcases List.mem_cons.mp me with rfl | me
    · simp
    · have ne : ¬ x.1 = e.1 := fun z => n1 (by rw [z]; exact List.mem_map.mpr ⟨e, me, rfl⟩)
      rw [decide_eq_false ne]
      exact ih n2 me
theorem atNew_perm {L : List FE} {g : List Nat} {m : Nat} (h : okF L P g m) : (anewG L g).Perm (atNew L g) := by
  refine perm_ids (anew_of h).nd (by rw [atNew_ids h]; exact h.nd) fun f => ⟨fun mf => ?_, fun mf => ?_⟩
  · obtain ⟨e, me, h1, _⟩ := (anew_of h).th f mf
    refine List.mem_map.mpr ⟨e, me, ?_⟩
    show entF (anewG L g) e.1 = f
    rw [h1]
    exact ent_self (anew_of h).nd mf
  · obtain ⟨e, me, rfl⟩ := List.mem_map.mp mf
    exact (anew_ent h me).1
theorem okF_new {L : List FE} {g : List Nat} {m : Nat} (h : okF L P g m) : okF (atNew L g) (anewG L g) g m := by
  refine ⟨by rw [atNew_ids h]; exact h.nd, fun f mf => ?_, fun f mf => ?_, h.gn, fun t mt => by rw [atNew_ids h]; exact h.gi t mt, h.ml, atNew_perm h⟩
  · obtain ⟨e, me, rfl⟩ := List.mem_map.mp mf
    rw [(anew_ent h me).2.1]
    exact h.lt e me
  · obtain ⟨e, me, rfl⟩ := List.mem_map.mp mf
    obtain ⟨h1, h2, h3⟩ := anew_ent h me
    obtain ⟨t1, t2, t3, _⟩ := h.th e me
    rw [h3]
    exact ⟨t1, t2, t3, anew_pos h _ h1⟩
theorem okA_perm {F K : List FE} (p : F.Perm K) (h : okA al F) : okA al K := by
  refine ⟨fun e me => h.hi e (p.mem_iff.mpr me), fun e me => h.bd e (p.mem_iff.mpr me), fun e me => h.ub e (p.mem_iff.mpr me), ?_, fun a e me => h.ak a e (p.mem_iff.mpr me), by rw [← p.length_eq]; exact h.ln⟩
  exact (p.pairwise_iff fun {a b} q => by rw [lieO_comm]; exact q).mp h.sep
theorem okA_new {L : List FE} {g : List Nat} {m : Nat} (h : okF L P g m) (hA : okA al L) : okA al (atNew L g) := okA_perm (atNew_perm h) (anew_ok h hA)
end
end FM
namespace FM
open PySem PySem.Spec L2 PyProof.Rows
theorem q_lie_over {s b p s' b' p' : Int} : qOf f_lie_over [.tuple [.int s, .int b], .int p, .tuple [.int s', .int b'], .int p'] = some (.bool (lieO p s p' s')) := by
  apply qof_of
  unfold f_lie_over m_lie_over
  by_cases h1 : p < p' + s' <;> by_cases h2 : p' < p + s <;> simp [qCall, q_end_of, h1, h2, lieO]
theorem q_height {ts : List (Int × Int)} {pl : List Int} (hl : ts.length ≤ 1000) (he : pl.length = ts.length) : qOf f_height_things [.tuple (ts.map thD), .list (pl.map .int)] = some (.int (topD 0 (List.zipWith (fun (t : Int × Int) p => p + t.1) ts pl))) := by
  apply qof_of
  unfold f_height_things m_height_things
  have l1 : lcGo (fTup 2 (fCons (fName 2) (fCons (fName 3) fNil))) qYes (qCall (qOf f_end_of) (qCons (qVar 2) (qCons (qVar 3) qNil))) [.fz (.tuple (ts.map thD)), .fz (.list (pl.map .int)), .dead, .dead] (zipD (ts.map thD) (pl.map .int)) = some ((List.zipWith (fun (t : Int × Int) p => p + t.1) ts pl).map .int) := by
    have h := lcGo_map (f := fTup 2 (fCons (fName 2) (fCons (fName 3) fNil))) (e := qCall (qOf f_end_of) (qCons (qVar 2) (qCons (qVar 3) qNil))) (ρ := [.fz (.tuple (ts.map thD)), .fz (.list (pl.map .int)), .dead, .dead]) (h := fun z => match z with | .tuple [.tuple [.int s, _], .int p] => .int (p + s) | d => d) (xs := zipD (ts.map thD) (pl.map .int)) fun z m => by
      obtain ⟨i, hi, rfl⟩ := List.mem_iff_getElem.mp m
      obtain ⟨h1, h2, h3⟩ := zip_at hi
      rw [h3, List.getElem_map, List.getElem_map]
      refine ⟨_, rfl, ?_⟩
      simp [qCall, thD, pairD, q_end_of]
    rw [h]
    unfold zipD
    rw [List.map_zipWith, List.map_zipWith, List.zipWith_map]
    rfl
  have hz : (zipD (ts.map thD) (pl.map PyData.int)).length ≤ 16777216 := by simp [zipD]; omega
  generalize hzz : zipD (ts.map thD) (pl.map PyData.int) = zz at l1 hz
  generalize List.zipWith (fun (t : Int × Int) p => p + t.1) ts pl = es at l1
  simp [hzz, sizeLine, hz, l1]
end FM
namespace FM
open PySem PySem.Spec L2 PyProof.Rows
def thG (ts : List (Int × Int)) (u : Nat) : Int × Int := ts.getD u (1, 1)
def clashG (ts : List (Int × Int)) (pl : List Int) (t : Nat) (p : Int) (u : Nat) : Bool := decide (u ≠ t) && lieO p (thG ts t).1 (pl.getD u 0) (thG ts u).1
def freeT (ts : List (Int × Int)) (pl : List Int) (t : Nat) (p : Int) : Bool := (List.range ts.length).all fun u => !clashG ts pl t p u
def isMv (ts : List (Int × Int)) : PD → Option (Nat × Int)
  | .tuple [.int t, .int p] => if 0 ≤ t ∧ 0 ≤ p ∧ t < ts.length ∧ p % (thG ts t.toNat).2 = 0 then some (t.toNat, p) else none
  | _ => none
def playG (ts : List (Int × Int)) : List PD → List Int → Option (List Int)
  | [], pl => some pl
  | x :: xs, pl => match isMv ts x with
    | none => none
    | some q => if freeT ts pl q.1 q.2 then playG ts xs (pl.set q.1 q.2) else none
theorem at_thG {ts : List (Int × Int)} {t : Nat} (h : t < ts.length) : atI (ts.map thD) (t : Int) = some (.tuple [.int (thG ts t).1, .int (thG ts t).2]) := at_th h
theorem okT_G {ts : List (Int × Int)} {t : Nat} (o : okT ts) (h : t < ts.length) : 1 ≤ (thG ts t).1 ∧ (thG ts t).1 ≤ 10 ^ 9 ∧ 1 ≤ (thG ts t).2 ∧ (thG ts t).2 ≤ 64 := okT_at o h
def upto (ts : List (Int × Int)) (pl : List Int) (t : Nat) (p : Int) (i : Nat) : Prop := ∀ u, u < i → clashG ts pl t p u = false
theorem free_of {ts : List (Int × Int)} {pl : List Int} {t : Nat} {p : Int} (h : upto ts pl t p ts.length) : freeT ts pl t p = true := by
  unfold freeT
  rw [List.all_eq_true]
  intro u m
  rw [h u (List.mem_range.mp m)]
  rfl
theorem free_not {ts : List (Int × Int)} {pl : List Int} {t : Nat} {p : Int} {u : Nat} (hu : u < ts.length) (h : clashG ts pl t p u = true) : freeT ts pl t p = false := by
  unfold freeT
  rw [List.all_eq_false]
  exact ⟨u, List.mem_range.mpr hu, by simp [h]⟩
theorem upto_succ {ts : List (Int × Int)} {pl : List Int} {t : Nat} {p : Int} {i : Nat} (h : upto ts pl t p i) (c : clashG ts pl t p i = false) : upto ts pl t p (i + 1) := fun u hu => by
  rcases Nat.lt_or_ge u i with z | z
  · exact h u z
  · have : u = i := by omega
    rw [this]; exact c
theorem upto_0 {ts : List (Int × Int)} {pl : List Int} {t : Nat} {p : Int} : upto ts pl t p 0 := fun u hu => by omega
theorem q_free {ts : List (Int × Int)} {pl : List Int} {t : Nat} {p : Int} (ht : t < ts.length) (hl : pl.length = ts.length) :
    qOf f_is_free [.tuple (ts.map thD), .list (pl.map .int), .int (t : Int), .int p] = some (.bool (freeT ts pl t p)) := by
  apply qof_of
  unfold f_is_free m_is_free
  rw [wF_defN, wS_seq]
  have e1 := at_thG ht
  simp
  refine wS_forI (fun i ρ => ∃ x4 x5, ρ = [.fz (.tuple (ts.map thD)), .fz (.list (pl.map .int)), .fz (.int (t : Int)), .fz (.int p), x4, x5] ∧ upto ts pl t p i) ⟨_, _, rfl, upto_0⟩ ?_ ?_
  · rintro i x ρ ex ⟨x4, x5, rfl, hu⟩
    obtain ⟨d, ed, rfl⟩ := enumGo_at ex
    rw [List.getElem?_map] at ed
    obtain ⟨q, eq, rfl⟩ := Option.map_eq_some_iff.mp ed
    have hi : i < ts.length := hl ▸ (List.getElem?_eq_some_iff.mp eq).1
    have e2 := at_thG hi
    have e3 : pl.getD i 0 = q := by simp [eq]
    have hc : clashG ts pl t p i = (decide (i ≠ t) && lieO p (thG ts t).1 q (thG ts i).1) := by rw [← e3]; rfl
    rw [Nat.zero_add]
    refine ⟨_, rfl, ?_⟩
    by_cases c0 : i = t
    · subst c0
      have hcf : clashG ts pl i p i = false := by rw [hc]; simp
      simp
      exact upto_succ hu hcf
    · have c0' : ¬ ((i : Int) = t) := by omega
      generalize thG ts t = v at e1 hc
      generalize thG ts i = w at e2 hc
      cases hlo : lieO p v.1 q w.1 with
      | true =>
        have hct : clashG ts pl t p i = true := by rw [hc, hlo]; simp [c0]
        simp [c0', e1, e2, qCall, q_lie_over, hlo, free_not hi hct]
      | false =>
        have hcf : clashG ts pl t p i = false := by rw [hc, hlo]; simp
        simp [c0', e1, e2, qCall, q_lie_over, hlo]
        exact upto_succ hu hcf
  · rintro ρ ⟨x4, x5, rfl, hu⟩
    have : (enumGo 0 (pl.map PyData.int)).length = ts.length := by rw [enum_len, List.length_map, hl]
    rw [this] at hu
    simp [free_of hu]
end FM
namespace FM
open PySem PySem.Spec L2 PyProof.Rows
def hgtG (ts : List (Int × Int)) (pl : List Int) : Int := topD 0 (List.zipWith (fun (t : Int × Int) p => p + t.1) ts pl)
theorem topD_max {l : List Int} (h : l ≠ []) {d : Int} : topD d l = maxI l := by
  cases l with
  | nil => exact (h rfl).elim
  | cons n r => exact maxI_cons.symm
theorem end_le {ts : List (Int × Int)} {pl : List Int} {t : Nat} (h : t < ts.length) (hl : pl.length = ts.length) : pl.getD t 0 + (thG ts t).1 ≤ hgtG ts pl := by
  have m : pl.getD t 0 + (thG ts t).1 ∈ List.zipWith (fun (t : Int × Int) p => p + t.1) ts pl := by
    refine List.mem_iff_getElem.mpr ⟨t, by simp; omega, ?_⟩
    simp [thG, h, hl ▸ h]
  unfold hgtG
  rw [topD_max (fun e => by rw [e] at m; cases m)]
  exact (maxI_is (fun e => by rw [e] at m; cases m)).2 _ m
theorem hgt_le {ts : List (Int × Int)} {pl : List Int} {B : Int} (hB : 0 ≤ B) (hl : pl.length = ts.length) (h : ∀ t, t < ts.length → pl.getD t 0 + (thG ts t).1 ≤ B) : hgtG ts pl ≤ B := by
  unfold hgtG
  by_cases e : List.zipWith (fun (t : Int × Int) p => p + t.1) ts pl = []
  · rw [e]; exact hB
  · rw [topD_max e]
    have m := (maxI_is e).1
    obtain ⟨i, hi, ei⟩ := List.mem_iff_getElem.mp m
    rw [← ei]
    have hi2 : i < ts.length := by simp at hi; omega
    have := h i hi2
    simpa [thG, hi2, hl ▸ hi2] using this
def waitG (pl nw : List Int) (t : Nat) : Bool := !decide (pl.getD t 0 = nw.getD t 0)
def wtsG (n : Nat) (pl nw : List Int) : List Nat := (List.range n).filter (waitG pl nw)
def mvD (q : Nat × Int) : PD := .tuple [.int (q.1 : Int), .int q.2]
def aboveG (ts : List (Int × Int)) (pl nw : List Int) : Int := if hgtG ts nw > hgtG ts pl then hgtG ts nw else hgtG ts pl
def freeAt (ts : List (Int × Int)) (pl nw : List Int) (t : Nat) : Bool := freeT ts pl t (nw.getD t 0)
def notIn (as : List Nat) (t : Nat) : Bool := !decide (t ∈ as)
def sideG (ts : List (Int × Int)) (pl nw : List Int) (w as : List Nat) : Nat × Int := match w.filter (notIn as) with
  | t :: _ => (t, up (aboveG ts pl nw) (thG ts t).2)
  | [] => (0, 0)
def nextG (ts : List (Int × Int)) (pl nw : List Int) (as : List Nat) : Nat × Int := match (wtsG ts.length pl nw).find? (freeAt ts pl nw) with
  | some t => (t, nw.getD t 0)
  | none => sideG ts pl nw (wtsG ts.length pl nw) as
def foundN (ts : List (Int × Int)) (pl nw : List Int) (V : List Nat) : Prop := V.find? (freeAt ts pl nw) = none
def foundO (ts : List (Int × Int)) (pl nw : List Int) (V : List Nat) (o : O) : Prop := ∃ t, V.find? (freeAt ts pl nw) = some t ∧ o = .fz (mvD (t, nw.getD t 0))
theorem oNin_nats {u : Nat} {as : List Nat} : oNin (.fz (.int (u : Int))) (.fz (.list (as.map natD))) = some (.fz (.bool (!decide (u ∈ as)))) := by
  have h := oIn_ints (i := (u : Int)) (l := as.map fun t : Nat => (t : Int))
  have e : (as.map fun t : Nat => (t : Int)).map PyData.int = as.map natD := by rw [List.map_map]; rfl
  rw [e] at h
  have e2 : decide ((u : Int) ∈ as.map fun t : Nat => (t : Int)) = decide (u ∈ as) := by
    rw [Bool.eq_iff_iff, decide_eq_true_eq, decide_eq_true_eq, List.mem_map]
    exact ⟨fun ⟨a, m, e⟩ => by have : a = u := by omega
                               exact this ▸ m, fun m => ⟨u, m, rfl⟩⟩
  rw [e2] at h
  unfold oIn at h
  unfold oNin
  cases hb : bIn (.fz (.int (u : Int))) (.fz (.list (as.map natD))) with
  | none => rw [hb] at h; cases h
  | some b =>
    rw [hb] at h
    simp at h
    simp [h]
theorem q_next {ts : List (Int × Int)} {pl nw : List Int} {as : List Nat} (ho : okT ts) (hn : ts.length ≤ 1000) (hl : pl.length = ts.length) (hw : nw.length = ts.length)
    (hs : ((wtsG ts.length pl nw).find? (freeAt ts pl nw)) = none → (wtsG ts.length pl nw).filter (notIn as) ≠ []) :
    qOf f_next_move [.tuple (ts.map thD), .list (pl.map .int), .list (nw.map .int), .list (as.map natD)] = some (mvD (nextG ts pl nw as)) := by
  apply qof_of
  unfold f_next_move m_next_move
  rw [wF_defN, wS_seq]
  have hb : big62 (ts.length : Int) = true := big62_s (by omega) (by omega)
  have e0 : rngD 0 ts.length = (List.range ts.length).map natD := by
    unfold rngD
    apply List.map_congr_left
    intro i _
    simp [natD]
  have l1 : lcGo (fName 5) (qB (qOp oNe (qOp oIx (qVar 1) (qVar 5)) (qOp oIx (qVar 2) (qVar 5)))) (qVar 5) [.fz (.tuple (ts.map thD)), .fz (.list (pl.map .int)), .fz (.list (nw.map .int)), .fz (.list (as.map natD)), .dead, .dead, .dead] (rngD 0 ts.length) = some ((wtsG ts.length pl nw).map natD) := by
    unfold wtsG
    rw [e0, ← natD_filter (natP_natD (p := waitG pl nw))]
    have h := lcGo_all (f := fName 5) (c := qB (qOp oNe (qOp oIx (qVar 1) (qVar 5)) (qOp oIx (qVar 2) (qVar 5)))) (e := qVar 5) (ρ := [.fz (.tuple (ts.map thD)), .fz (.list (pl.map .int)), .fz (.list (nw.map .int)), .fz (.list (as.map natD)), .dead, .dead, .dead]) (p := natP (waitG pl nw)) (h := fun x => x) (xs := (List.range ts.length).map natD) fun x mx => by
      obtain ⟨u, mu, rfl⟩ := List.mem_map.mp mx
      have hu := List.mem_range.mp mu
      refine ⟨_, rfl, ?_, fun _ => by simp⟩
      have e1 := at_pl (pl := pl) (t := u) (by omega)
      have e2 := at_pl (pl := nw) (t := u) (by omega)
      have e3 : natP (waitG pl nw) (natD u) = waitG pl nw u := natP_natD u
      rw [e3]
      unfold waitG
      generalize pl.getD u 0 = a at e1
      generalize nw.getD u 0 = b at e2
      simp [natD, e1, e2]
    rw [h, List.map_id']
  have hz : (rngD 0 ts.length).length ≤ sizeLine := by simp [sizeLine]; omega
  have hmem : ∀ t ∈ wtsG ts.length pl nw, t < ts.length := fun t m => List.mem_range.mp (List.mem_filter.mp m).1
  generalize hR : mvD (nextG ts pl nw as) = R
  unfold nextG at hR
  have hlen : (wtsG ts.length pl nw).length ≤ ts.length := by
    have := List.length_filter_le (waitG pl nw) (List.range ts.length)
    simpa [wtsG] using this
  generalize wtsG ts.length pl nw = W at l1 hmem hs hlen hR
  have hz2 : ts.length ≤ 16777216 := by omega
  simp [hb, hz, hz2, sizeLine, l1]
  rw [wS_seq]
  simp
  have go : ∀ (V : List Nat) (x5 : O), (∀ t ∈ V, t < ts.length) → wS (forGo (fName 5) (sIf (bLift (qB (qCall (qOf f_is_free) (qCons (qVar 0) (qCons (qVar 1) (qCons (qVar 5) (qCons (qOp oIx (qVar 2) (qVar 5)) qNil))))))) (sRet (mLift (qTup (qCons (qVar 5) (qCons (qOp oIx (qVar 2) (qVar 5)) qNil))))) sNext) (V.map natD) [.fz (.tuple (ts.map thD)), .fz (.list (pl.map .int)), .fz (.list (nw.map .int)), .fz (.list (as.map natD)), .fz (.list (W.map natD)), x5, .dead])
      (fun ρ => foundN ts pl nw V ∧ ∃ x5, ρ = [.fz (.tuple (ts.map thD)), .fz (.list (pl.map .int)), .fz (.list (nw.map .int)), .fz (.list (as.map natD)), .fz (.list (W.map natD)), x5, .dead])
      (fun o _ => foundO ts pl nw V o) (fun _ => False) (fun _ => False) := by
    intro V
    induction V with
    | nil => intro x5 _; exact ⟨rfl, x5, rfl⟩
    | cons v V ih =>
      intro x5 hV
      rw [List.map_cons, wS_forCons]
      refine ⟨_, rfl, ?_⟩
      have hv := hV v List.mem_cons_self
      have e2 := at_pl (pl := nw) (t := v) (by omega)
      have ef := q_free (t := v) (p := nw.getD v 0) hv hl
      have ef : qOf f_is_free [.tuple (ts.map thD), .list (pl.map .int), .int (v : Int), .int (nw.getD v 0)] = some (.bool (freeAt ts pl nw v)) := ef
      cases hf : freeAt ts pl nw v with
      | true =>
        rw [hf] at ef
        have e5 : foundO ts pl nw (v :: V) (.fz (.tuple [.int (v : Int), .int (nw.getD v 0)])) := ⟨v, by rw [List.find?_cons, hf], rfl⟩
        generalize nw.getD v 0 = b at e2 ef e5
        simp [natD, e2, qCall, ef, sizeLine]
        exact e5
      | false =>
        rw [hf] at ef
        have eN : foundN ts pl nw (v :: V) = foundN ts pl nw V := by unfold foundN; rw [List.find?_cons, hf]
        have eO : ∀ o, foundO ts pl nw (v :: V) o = foundO ts pl nw V o := fun o => by unfold foundO; rw [List.find?_cons, hf]
        simp only [eN, eO]
        have := ih (.fz (natD v)) fun t m => hV t (List.mem_cons_of_mem _ m)
        generalize nw.getD v 0 = b at e2 ef
        simp [natD, e2, qCall, ef]
        exact this
  refine wS_mono (go W .dead hmem) (fun ρ z => ?_) (fun o _ z => ?_) (fun _ z => z) (fun _ z => z)
  · obtain ⟨hno, x5, rfl⟩ := z
    have hno : W.find? (freeAt ts pl nw) = none := hno
    have hne := hs hno
    rw [hno] at hR
    simp only at hR
    unfold sideG at hR
    have l2 : lcGo (fName 5) (qB (qOp oNin (qVar 5) (qVar 3))) (qVar 5) [.fz (.tuple (ts.map thD)), .fz (.list (pl.map .int)), .fz (.list (nw.map .int)), .fz (.list (as.map natD)), .fz (.list (W.map natD)), .dead, .dead] (W.map natD) = some ((W.filter (notIn as)).map natD) := by
      rw [← natD_filter (natP_natD (p := notIn as))]
      have h := lcGo_all (f := fName 5) (c := qB (qOp oNin (qVar 5) (qVar 3))) (e := qVar 5) (ρ := [.fz (.tuple (ts.map thD)), .fz (.list (pl.map .int)), .fz (.list (nw.map .int)), .fz (.list (as.map natD)), .fz (.list (W.map natD)), .dead, .dead]) (p := natP (notIn as)) (h := fun x => x) (xs := W.map natD) fun x mx => by
        obtain ⟨u, mu, rfl⟩ := List.mem_map.mp mx
        refine ⟨_, rfl, ?_, fun _ => by simp⟩
        have e3 : natP (notIn as) (natD u) = notIn as u := natP_natD u
        have e4 : oNin (.fz (.int (u : Int))) (.fz (.list (as.map natD))) = some (.fz (.bool (notIn as u))) := oNin_nats
        rw [e3]
        generalize notIn as u = b at e4
        generalize as.map natD = asD at e4
        simp [natD, e4]
      rw [h, List.map_id']
    cases hF : W.filter (notIn as) with
    | nil => exact (hne hF).elim
    | cons t F =>
      rw [hF] at l2 hR
      simp only at hR
      have ht : t < ts.length := hmem t (List.mem_filter.mp (hF ▸ List.mem_cons_self : t ∈ W.filter (notIn as))).1
      rw [wS_seq]
      have hzW : W.length ≤ 16777216 := by omega
      simp [sizeLine, hzW, l2]
      rw [wS_seq]
      have h1 := q_height (ts := ts) (pl := pl) hn hl
      have h2 := q_height (ts := ts) (pl := nw) hn hw
      have e2 := at_thG ht
      have hb2 := okT_G ho ht
      have h3 : qOf f_height_things [.tuple (ts.map thD), .list (pl.map .int)] = some (.int (hgtG ts pl)) := h1
      have h4 : qOf f_height_things [.tuple (ts.map thD), .list (nw.map .int)] = some (.int (hgtG ts nw)) := h2
      unfold aboveG at hR
      generalize hgtG ts pl = H1 at h3 hR
      generalize hgtG ts nw = H2 at h4 hR
      simp [qCall, h3, h4]
      have hR : mvD (t, up (if H1 < H2 then H2 else H1) (thG ts t).2) = R := hR
      generalize (if H1 < H2 then H2 else H1) = ab at hR
      generalize thG ts t = v at e2 hb2 hR
      have hr := q_rounded (n := ab) (b := v.2) (by omega) (by omega)
      simp [natD, e2, List.getElem?_cons_zero, qCall, hr, sizeLine, ← hR, mvD]
  · obtain ⟨t, e, rfl⟩ := z
    rw [e] at hR
    rw [← hR]
    rfl
end FM
namespace FM
open PySem PySem.Spec L2 PyProof.Rows
def sepG (ts : List (Int × Int)) (pl : List Int) : Prop := ∀ t u, t < ts.length → u < ts.length → u ≠ t → lieO (pl.getD t 0) (thG ts t).1 (pl.getD u 0) (thG ts u).1 = false
def valG (pl nw : List Int) (as : List Nat) (t : Nat) : Nat := if pl.getD t 0 = nw.getD t 0 then 0 else if t ∈ as then 1 else 2
def measG (n : Nat) (pl nw : List Int) (as : List Nat) : Nat := ((List.range n).map (valG pl nw as)).sum
theorem sum_le {f g : Nat → Nat} : ∀ {l : List Nat}, (∀ x ∈ l, g x ≤ f x) → (l.map g).sum ≤ (l.map f).sum
  | [], _ => Nat.le_refl _
  | x :: l, h => by
    have h1 := h x List.mem_cons_self
    have h2 := sum_le (l := l) fun y m => h y (List.mem_cons_of_mem _ m)
    simp
    omega
theorem sum_lt {f g : Nat → Nat} : ∀ {l : List Nat}, (∀ x ∈ l, g x ≤ f x) → (∃ x ∈ l, g x < f x) → (l.map g).sum < (l.map f).sum
  | [], _, ⟨_, m, _⟩ => by cases m
  | x :: l, h, ⟨y, m, hy⟩ => by
    have h1 := h x List.mem_cons_self
    have h2 := sum_le (l := l) fun y m => h y (List.mem_cons_of_mem _ m)
    simp
    rcases List.mem_cons.mp m with rfl | m
    · omega
    · have := sum_lt (l := l) (fun y m => h y (List.mem_cons_of_mem _ m)) ⟨y, m, hy⟩
      omega
theorem meas_le {n : Nat} {pl nw : List Int} {as : List Nat} : measG n pl nw as ≤ 2 * n := by
  have h : ∀ l : List Nat, (l.map (valG pl nw as)).sum ≤ 2 * l.length := by
    intro l
    induction l with
    | nil => simp
    | cons x l ih =>
      have : valG pl nw as x ≤ 2 := by unfold valG; split <;> (try split) <;> omega
      simp
      omega
  have := h (List.range n)
  simpa [measG] using this
theorem wait_ex {n : Nat} {pl nw : List Int} (hl : pl.length = n) (hw : nw.length = n) (h : pl ≠ nw) : wtsG n pl nw ≠ [] := by
  intro e
  apply h
  apply List.ext_getElem (by omega)
  intro i h1 h2
  have : i ∉ wtsG n pl nw := by rw [e]; simp
  unfold wtsG at this
  rw [List.mem_filter] at this
  have h3 : waitG pl nw i ≠ true := fun z => this ⟨List.mem_range.mpr (by omega), z⟩
  unfold waitG at h3
  simpa [h1, h2] using h3
theorem wts_mem {n t : Nat} {pl nw : List Int} : t ∈ wtsG n pl nw ↔ t < n ∧ pl.getD t 0 ≠ nw.getD t 0 := by
  unfold wtsG waitG
  rw [List.mem_filter, List.mem_range]
  simp
def highG (ts : List (Int × Int)) (pl nw : List Int) (as : List Nat) : Prop := ∀ t, t < ts.length → t ∈ as → pl.getD t 0 ≠ nw.getD t 0 → hgtG ts nw ≤ pl.getD t 0
theorem next_ok {ts : List (Int × Int)} {pl nw : List Int} {as : List Nat} (ho : okT ts) (hl : pl.length = ts.length) (hw : nw.length = ts.length) (hne : pl ≠ nw) (hs : sepG ts nw) (hh : highG ts pl nw as)
    (hf : (wtsG ts.length pl nw).find? (freeAt ts pl nw) = none) : (wtsG ts.length pl nw).filter (notIn as) ≠ [] := by
  intro e
  obtain ⟨t, mt⟩ := List.exists_mem_of_ne_nil _ (wait_ex hl hw hne)
  have h1 := List.find?_eq_none.mp hf t mt
  apply h1
  obtain ⟨ht, hwt⟩ := wts_mem.mp mt
  refine free_of fun u hu => ?_
  unfold clashG
  by_cases c : u = t
  · simp [c]
  · by_cases z : pl.getD u 0 = nw.getD u 0
    · rw [z, hs t u ht hu c, Bool.and_false]
    · have mu : u ∈ wtsG ts.length pl nw := wts_mem.mpr ⟨hu, z⟩
      have h2 := List.filter_eq_nil_iff.mp e u mu
      have h3 : u ∈ as := by simpa [notIn] using h2
      have h4 := hh u hu h3 z
      have h5 := end_le (t := t) ht hw
      rw [lieO_false.mpr (by omega), Bool.and_false]
theorem imm_mv {q : Nat × Int} : imm (mvD q) = true := rfl
theorem flen_sum {p : Nat → Bool} : ∀ l : List Nat, (l.filter p).length = (l.map fun x => if p x then 1 else 0).sum
  | [] => rfl
  | x :: l => by
    have ih := flen_sum (p := p) l
    rw [List.filter_cons, List.map_cons, List.sum_cons, ← ih]
    cases p x <;> simp <;> omega
theorem flen_le {p q : Nat → Bool} {l : List Nat} (h : ∀ x ∈ l, p x = true → q x = true) : (l.filter p).length ≤ (l.filter q).length := by
  rw [flen_sum, flen_sum]
  refine sum_le fun x m => ?_
  have := h x m
  cases hp : p x with
  | false => simp
  | true => simp [this hp]
theorem flen_lt {p q : Nat → Bool} {l : List Nat} (h : ∀ x ∈ l, p x = true → q x = true) {y : Nat} (m : y ∈ l) (hy : p y = false) (hq : q y = true) : (l.filter p).length < (l.filter q).length := by
  rw [flen_sum, flen_sum]
  refine sum_lt (fun x m => ?_) ⟨y, m, by simp [hy, hq]⟩
  have := h x m
  cases hp : p x with
  | false => simp
  | true => simp [this hp]
theorem pigeon {R : Nat → Nat → Prop} : ∀ {W V : List Nat}, W.Nodup → (∀ t ∈ W, ∃ u ∈ V, R t u) → (∀ t ∈ W, ∀ t' ∈ W, ∀ u, R t u → R t' u → t = t') → W.length ≤ V.length
  | [], _, _, _, _ => Nat.zero_le _
  | t :: W, V, hn, he, hi => by
    obtain ⟨h1, h2⟩ := List.nodup_cons.mp hn
    obtain ⟨u, mu, ru⟩ := he t List.mem_cons_self
    have ih := pigeon (W := W) (V := V.erase u) h2 (fun t' m' => by
      obtain ⟨u', mu', ru'⟩ := he t' (List.mem_cons_of_mem _ m')
      have hne : u' ≠ u := fun e => by
        rw [e] at ru'
        have := hi t List.mem_cons_self t' (List.mem_cons_of_mem _ m') u ru ru'
        exact h1 (this ▸ m')
      exact ⟨u', (List.mem_erase_of_ne hne).mpr mu', ru'⟩) (fun a ma b mb u ra rb => hi a (List.mem_cons_of_mem _ ma) b (List.mem_cons_of_mem _ mb) u ra rb)
    have h3 := List.length_erase_of_mem mu
    have h4 : 0 < V.length := List.length_pos_of_mem mu
    simp only [List.length_cons]
    omega
def cntG (fs : List (Nat × Int)) (t : Nat) : Nat := (fs.filter fun q => decide (q.1 = t)).length
theorem cnt_snoc {fs : List (Nat × Int)} {t u : Nat} {p : Int} : cntG (fs ++ [(t, p)]) u = cntG fs u + if t = u then 1 else 0 := by
  unfold cntG
  rw [List.filter_append, List.length_append]
  by_cases c : t = u <;> simp [c]
theorem play_snoc {ts : List (Int × Int)} {y : PD} : ∀ {xs : List PD} {pl r : List Int}, playG ts xs pl = some r → playG ts (xs ++ [y]) pl = playG ts [y] r
  | [], pl, r, h => by cases h; rfl
  | x :: xs, pl, r, h => by
    rw [List.cons_append]
    unfold playG at h ⊢
    cases hm : isMv ts x with
    | none => rw [hm] at h; cases h
    | some q =>
      rw [hm] at h
      simp only at h ⊢
      split
      · rename_i hf
        rw [if_pos hf] at h
        exact play_snoc h
      · rename_i hf
        rw [if_neg hf] at h
        cases h
def slotOk (ts : List (Int × Int)) (olds nw : List Int) : Prop := ∃ z : Int, 1 ≤ z ∧ ∀ t, t < ts.length → (thG ts t).1 = z ∧ (∃ v, olds.getD t 0 = z * v) ∧ ∃ v, nw.getD t 0 = z * v
theorem slot_same {z v w : Int} (hz : 1 ≤ z) (h : lieO (z * w) z (z * v) z = true) : v = w := by
  obtain ⟨h1, h2⟩ := lieO_true.mp h
  have g1 : z * w < z * (v + 1) := by rw [Int.mul_add]; omega
  have g2 : z * v < z * (w + 1) := by rw [Int.mul_add]; omega
  have k1 := Int.lt_of_mul_lt_mul_left g1 (by omega)
  have k2 := Int.lt_of_mul_lt_mul_left g2 (by omega)
  omega
def homeL (olds pl nw : List Int) (as : List Nat) (t : Nat) : Bool := decide (olds.getD t 0 ≠ nw.getD t 0) && !decide (t ∈ as) && decide (pl.getD t 0 = nw.getD t 0)
def homeN (n : Nat) (olds pl nw : List Int) (as : List Nat) : Nat := ((List.range n).filter (homeL olds pl nw as)).length
/-- the count of what was put aside, of slots -/
def sideI (ts : List (Int × Int)) (olds pl nw : List Int) (as : List Nat) : Prop :=
  (∀ a b, a ∈ as → b ∈ as → pl.getD a 0 ≠ nw.getD a 0 → pl.getD b 0 ≠ nw.getD b 0 → a = b) ∧
  (as.length ≤ homeN ts.length olds pl nw as ∨ (as.length = homeN ts.length olds pl nw as + 1 ∧ ∃ a u, a ∈ as ∧ a < ts.length ∧ pl.getD a 0 ≠ nw.getD a 0 ∧ u < ts.length ∧ u ≠ a ∧ pl.getD u 0 = nw.getD a 0))
/-- what holds while things are moved -/
structure MovOk (ts : List (Int × Int)) (olds nw pl : List Int) (fs : List (Nat × Int)) (as : List Nat) : Prop where
  len : pl.length = ts.length
  high : highG ts pl nw as
  play : playG ts (fs.map mvD) olds = some pl
  cnt : ∀ t, t < ts.length → cntG fs t + valG pl nw as t ≤ valG olds nw [] t
  once : ∀ t, t < ts.length → t ∉ as → cntG fs t ≤ if pl.getD t 0 = nw.getD t 0 then 1 else 0
  old : ∀ t, t < ts.length → pl.getD t 0 = olds.getD t 0 ∨ pl.getD t 0 = nw.getD t 0 ∨ t ∈ as
  nd : as.Nodup
  asn : ∀ t ∈ as, t < ts.length ∧ olds.getD t 0 ≠ nw.getD t 0
  side : slotOk ts olds nw → sideI ts olds pl nw as
theorem val_pos {pl nw : List Int} {as : List Nat} {t : Nat} (h : pl.getD t 0 ≠ nw.getD t 0) : 1 ≤ valG pl nw as t := by
  unfold valG
  rw [if_neg h]
  split <;> omega
theorem stuck_none {ts : List (Int × Int)} {olds nw pl : List Int} {fs : List (Nat × Int)} {as : List Nat} (ho : okT ts) (hw : nw.length = ts.length) (hs : sepG ts nw) (M : MovOk ts olds nw pl fs as) (hsl : slotOk ts olds nw)
    (hf : (wtsG ts.length pl nw).find? (freeAt ts pl nw) = none) :
    (∀ t ∈ wtsG ts.length pl nw, ∃ u, u < ts.length ∧ u ≠ t ∧ u ∉ as ∧ pl.getD u 0 ≠ nw.getD u 0 ∧ pl.getD u 0 = nw.getD t 0) := by
  obtain ⟨z, hz, hz2⟩ := hsl
  intro t mt
  obtain ⟨ht, hwt⟩ := wts_mem.mp mt
  have h1 : freeAt ts pl nw t ≠ true := List.find?_eq_none.mp hf t mt
  have h2 : ¬ upto ts pl t (nw.getD t 0) ts.length := fun h => h1 (free_of h)
  have ⟨u, hu, hc⟩ : ∃ u, u < ts.length ∧ clashG ts pl t (nw.getD t 0) u = true := by
    refine Classical.byContradiction fun h => h2 fun u hu => ?_
    cases e : clashG ts pl t (nw.getD t 0) u with
    | false => rfl
    | true => exact (h ⟨u, hu, e⟩).elim
  unfold clashG at hc
  rw [Bool.and_eq_true, decide_eq_true_eq] at hc
  obtain ⟨hne, hc⟩ := hc
  have hnu : pl.getD u 0 ≠ nw.getD u 0 := fun e => by
    rw [e, hs t u ht hu hne] at hc
    cases hc
  have hua : u ∉ as := fun m => by
    have h4 := M.high u hu m hnu
    have h5 := end_le (t := t) ht hw
    have : lieO (nw.getD t 0) (thG ts t).1 (pl.getD u 0) (thG ts u).1 = false := lieO_false.mpr (by omega)
    rw [this] at hc
    cases hc
  obtain ⟨s1, _, v, hv⟩ := hz2 t ht
  obtain ⟨s2, ⟨w, hwv⟩, _⟩ := hz2 u hu
  have hpu : pl.getD u 0 = z * w := by
    rcases M.old u hu with e | e | e
    · rw [e, hwv]
    · exact (hnu e).elim
    · exact (hua e).elim
  rw [s1, s2, hv, hpu] at hc
  have := slot_same hz hc
  exact ⟨u, hu, hne, hua, hnu, by rw [hpu, hv, this]⟩
theorem stuck_aside {ts : List (Int × Int)} {olds nw pl : List Int} {fs : List (Nat × Int)} {as : List Nat} (ho : okT ts) (hw : nw.length = ts.length) (hs : sepG ts nw) (M : MovOk ts olds nw pl fs as) (hsl : slotOk ts olds nw)
    (hf : (wtsG ts.length pl nw).find? (freeAt ts pl nw) = none) : ∀ a, a ∈ as → pl.getD a 0 = nw.getD a 0 := by
  intro a ma
  refine Classical.byContradiction fun hna => ?_
  have haW : a ∈ wtsG ts.length pl nw := wts_mem.mpr ⟨(M.asn a ma).1, hna⟩
  have hocc := stuck_none ho hw hs M hsl hf
  have hnd : (wtsG ts.length pl nw).Nodup := List.Nodup.sublist List.filter_sublist List.nodup_range
  have p := pigeon (R := fun t u => u ≠ t ∧ pl.getD u 0 = nw.getD t 0) (W := wtsG ts.length pl nw) (V := (wtsG ts.length pl nw).filter (notIn as)) hnd (fun t mt => by
    obtain ⟨u, hu, hne, hua, hnu, e⟩ := hocc t mt
    exact ⟨u, List.mem_filter.mpr ⟨wts_mem.mpr ⟨hu, hnu⟩, by simp [notIn, hua]⟩, hne, e⟩) (fun t mt t' mt' u r r' => by
    refine Classical.byContradiction fun hne => ?_
    have e : nw.getD t 0 = nw.getD t' 0 := r.2.symm.trans r'.2
    obtain ⟨ht, _⟩ := wts_mem.mp mt
    obtain ⟨ht', _⟩ := wts_mem.mp mt'
    have h1 := hs t t' ht ht' (fun e => hne e.symm)
    have h2 := okT_G ho ht
    have h3 := okT_G ho ht'
    have := lieO_false.mp h1
    omega)
  have q : ((wtsG ts.length pl nw).filter (notIn as)).length < (wtsG ts.length pl nw).length := List.length_filter_lt_length_iff_exists.mpr ⟨a, haW, by simp [notIn, ma]⟩
  omega
end FM
namespace FM
open PySem PySem.Spec L2 PyProof.Rows
theorem else_of {ts : List (Int × Int)} {olds nw pl : List Int} {fs : List (Nat × Int)} {as : List Nat} (M : MovOk ts olds nw pl fs as) {t : Nat} (ht : t < ts.length) (hwt : pl.getD t 0 ≠ nw.getD t 0) : olds.getD t 0 ≠ nw.getD t 0 := by
  intro e
  have h1 := M.cnt t ht
  have h2 := val_pos (as := as) hwt
  unfold valG at h1
  rw [if_pos e] at h1
  unfold valG at h2
  omega
theorem val_set {pl nw : List Int} {as as' : List Nat} {t u : Nat} {p : Int} (hl : t < pl.length) (h : t ≠ u) (ha : u ∈ as' ↔ u ∈ as) : valG (pl.set t p) nw as' u = valG pl nw as u := by
  unfold valG
  rw [getD_set hl, if_neg h]
  simp only [ha]
theorem play_one {ts : List (Int × Int)} {pl : List Int} {t : Nat} {p : Int} (ht : t < ts.length) (hp : 0 ≤ p) (hb : p % (thG ts t).2 = 0) (hf : freeT ts pl t p = true) : playG ts [mvD (t, p)] pl = some (pl.set t p) := by
  have hm : isMv ts (mvD (t, p)) = some (t, p) := by
    simp [mvD, isMv, hp, hb, ht]
  unfold playG
  rw [hm]
  simp only [hf, if_true]
  rfl
theorem direct_ok {ts : List (Int × Int)} {olds nw pl : List Int} {fs : List (Nat × Int)} {as : List Nat} (ho : okT ts) (hw : nw.length = ts.length) (hs : sepG ts nw) (hb : ∀ t, t < ts.length → 0 ≤ nw.getD t 0 ∧ nw.getD t 0 % (thG ts t).2 = 0) (M : MovOk ts olds nw pl fs as)
    {t : Nat} (hf : (wtsG ts.length pl nw).find? (freeAt ts pl nw) = some t) : MovOk ts olds nw (pl.set t (nw.getD t 0)) (fs ++ [(t, nw.getD t 0)]) as := by
  obtain ⟨ht, hwt⟩ := wts_mem.mp (List.mem_of_find?_eq_some hf)
  have hfree0 : freeAt ts pl nw t = true := List.find?_some hf
  have hfree : freeT ts pl t (nw.getD t 0) = true := hfree0
  have hl : t < pl.length := M.len ▸ ht
  have hgd : ∀ u, (pl.set t (nw.getD t 0)).getD u 0 = if t = u then nw.getD t 0 else pl.getD u 0 := fun u => getD_set hl
  have hel := else_of M ht hwt
  refine ⟨by simp [M.len], fun u hu mu hwu => ?_, ?_, fun u hu => ?_, fun u hu mu => ?_, fun u hu => ?_, M.nd, M.asn, fun hsl => ?_⟩
  · rw [hgd] at hwu ⊢
    by_cases c : t = u
    · subst c; rw [if_pos rfl] at hwu; exact (hwu rfl).elim
    · rw [if_neg c] at hwu ⊢; exact M.high u hu mu hwu
  · rw [List.map_append]
    rw [List.map_cons, List.map_nil, play_snoc M.play]
    exact play_one ht (hb t ht).1 (hb t ht).2 hfree
  · rw [cnt_snoc]
    have h1 := M.cnt u hu
    by_cases c : t = u
    · subst c
      have h2 := val_pos (as := as) hwt
      have h3 : valG (pl.set t (nw.getD t 0)) nw as t = 0 := by unfold valG; rw [hgd, if_pos rfl, if_pos rfl]
      rw [if_pos rfl]
      omega
    · rw [if_neg c, val_set hl c Iff.rfl]
      exact h1
  · rw [cnt_snoc, hgd]
    have h1 := M.once u hu mu
    by_cases c : t = u
    · subst c
      rw [if_neg hwt] at h1
      rw [if_pos rfl, if_pos rfl, if_pos rfl]
      omega
    · rw [if_neg c, if_neg c]
      exact h1
  · rw [hgd]
    by_cases c : t = u
    · subst c; rw [if_pos rfl]; exact .inr (.inl rfl)
    · rw [if_neg c]; exact M.old u hu
  · obtain ⟨S1, S2⟩ := M.side hsl
    have mono : homeN ts.length olds pl nw as ≤ homeN ts.length olds (pl.set t (nw.getD t 0)) nw as := flen_le fun u mu hu => by
      unfold homeL at hu ⊢
      rw [hgd]
      by_cases c : t = u
      · subst c
        simp at hu
        exact (hwt (by simpa using hu.2)).elim
      · rw [if_neg c]; exact hu
    refine ⟨fun a b ma mb ha hb2 => ?_, ?_⟩
    · rw [hgd] at ha hb2
      by_cases ca : t = a
      · subst ca; rw [if_pos rfl] at ha; exact (ha rfl).elim
      · by_cases cb : t = b
        · subst cb; rw [if_pos rfl] at hb2; exact (hb2 rfl).elim
        · rw [if_neg ca] at ha
          rw [if_neg cb] at hb2
          exact S1 a b ma mb ha hb2
    · left
      by_cases mt : t ∈ as
      · rcases S2 with S2 | ⟨_, a, u, ma, ha, hwa, hu, hne, e⟩
        · omega
        · have hta : t = a := S1 t a mt ma hwt hwa
          subst hta
          have hc : clashG ts pl t (nw.getD t 0) u = true := by
            unfold clashG
            rw [e, decide_eq_true hne, Bool.true_and]
            have h1 := okT_G ho ht
            have h2 := okT_G ho hu
            exact lieO_true.mpr (by omega)
          rw [free_not hu hc] at hfree
          cases hfree
      · have lt : homeN ts.length olds pl nw as < homeN ts.length olds (pl.set t (nw.getD t 0)) nw as := flen_lt (y := t) (fun u mu hu => by
          unfold homeL at hu ⊢
          rw [hgd]
          by_cases c : t = u
          · subst c
            simp at hu
            exact (hwt (by simpa using hu.2)).elim
          · rw [if_neg c]; exact hu) (List.mem_range.mpr ht) (by unfold homeL; rw [decide_eq_false hwt, Bool.and_false]) (by unfold homeL; rw [hgd, if_pos rfl, decide_eq_true hel, decide_eq_false mt]; simp)
        rcases S2 with S2 | ⟨S2, _⟩ <;> omega
theorem aside_ok {ts : List (Int × Int)} {olds nw pl : List Int} {fs : List (Nat × Int)} {as : List Nat} (ho : okT ts) (hw : nw.length = ts.length) (hs : sepG ts nw) (hb : ∀ t, t < ts.length → 0 ≤ nw.getD t 0 ∧ nw.getD t 0 % (thG ts t).2 = 0) (M : MovOk ts olds nw pl fs as)
    (hf : (wtsG ts.length pl nw).find? (freeAt ts pl nw) = none) {t : Nat} {F : List Nat} (hF : (wtsG ts.length pl nw).filter (notIn as) = t :: F) :
    MovOk ts olds nw (pl.set t (up (aboveG ts pl nw) (thG ts t).2)) (fs ++ [(t, up (aboveG ts pl nw) (thG ts t).2)]) (as ++ [t]) := by
  have mt : t ∈ (wtsG ts.length pl nw).filter (notIn as) := hF ▸ List.mem_cons_self
  obtain ⟨m1, m2⟩ := List.mem_filter.mp mt
  obtain ⟨ht, hwt⟩ := wts_mem.mp m1
  have mta : t ∉ as := by simpa [notIn] using m2
  have hob := okT_G ho ht
  obtain ⟨u1, u2⟩ := up_is (e := aboveG ts pl nw) (b := (thG ts t).2) (by omega)
  have h5 := end_le (t := t) ht hw
  have h6 : hgtG ts nw ≤ aboveG ts pl nw ∧ hgtG ts pl ≤ aboveG ts pl nw := by unfold aboveG; split <;> omega
  have hpb : up (aboveG ts pl nw) (thG ts t).2 % (thG ts t).2 = 0 := up_mod
  have hp0 := (hb t ht).1
  generalize up (aboveG ts pl nw) (thG ts t).2 = p at *
  have hpne : p ≠ nw.getD t 0 := by omega
  have hl : t < pl.length := M.len ▸ ht
  have hgd : ∀ u, (pl.set t p).getD u 0 = if t = u then p else pl.getD u 0 := fun u => getD_set hl
  have hel := else_of M ht hwt
  have hmem : ∀ u, t ≠ u → (u ∈ as ++ [t] ↔ u ∈ as) := fun u c => by
    rw [List.mem_append, List.mem_singleton]
    exact ⟨fun h => h.elim id fun e => (c e.symm).elim, .inl⟩
  refine ⟨by simp [M.len], fun u hu mu hwu => ?_, ?_, fun u hu => ?_, fun u hu mu => ?_, fun u hu => ?_, ?_, fun u mu => ?_, fun hsl => ?_⟩
  · rw [hgd] at hwu ⊢
    by_cases c : t = u
    · subst c; rw [if_pos rfl]; omega
    · rw [if_neg c] at hwu ⊢; exact M.high u hu ((hmem u c).mp mu) hwu
  · rw [List.map_append, List.map_cons, List.map_nil, play_snoc M.play]
    refine play_one ht (by omega) hpb (free_of fun u hu => ?_)
    unfold clashG
    by_cases c : u = t
    · simp [c]
    · have h7 := end_le (t := u) hu M.len
      have : lieO p (thG ts t).1 (pl.getD u 0) (thG ts u).1 = false := lieO_false.mpr (by omega)
      rw [this, Bool.and_false]
  · rw [cnt_snoc]
    have h1 := M.cnt u hu
    by_cases c : t = u
    · subst c
      have h3 : valG (pl.set t p) nw (as ++ [t]) t = 1 := by unfold valG; rw [hgd, if_pos rfl, if_neg hpne, if_pos (by simp)]
      have h4 : valG pl nw as t = 2 := by unfold valG; rw [if_neg hwt, if_neg mta]
      rw [if_pos rfl]
      omega
    · rw [if_neg c, val_set hl c (hmem u c)]
      exact h1
  · have c : t ≠ u := fun e => mu (by rw [← e]; simp)
    rw [cnt_snoc, hgd, if_neg c, if_neg c]
    exact M.once u hu fun m => mu ((hmem u c).mpr m)
  · rw [hgd]
    by_cases c : t = u
    · subst c; exact .inr (.inr (by simp))
    · rw [if_neg c]
      rcases M.old u hu with h | h | h
      · exact .inl h
      · exact .inr (.inl h)
      · exact .inr (.inr ((hmem u c).mpr h))
  · rw [List.nodup_append]
    exact ⟨M.nd, by simp, fun a ma b mb e => mta (by rw [List.mem_singleton.mp mb] at e; exact e ▸ ma)⟩
  · rcases List.mem_append.mp mu with m | m
    · exact M.asn u m
    · rw [List.mem_singleton.mp m]; exact ⟨ht, hel⟩
  · obtain ⟨S1, S2⟩ := M.side hsl
    have hno := stuck_aside ho hw hs M hsl hf
    obtain ⟨u, hu, hut, hua, hnu, hocc⟩ := stuck_none ho hw hs M hsl hf t m1
    have S2' : as.length ≤ homeN ts.length olds pl nw as := by
      rcases S2 with S2 | ⟨_, a, _, ma, ha, hwa, _⟩
      · exact S2
      · exact (hwa (hno a ma)).elim
    have mono : homeN ts.length olds pl nw as ≤ homeN ts.length olds (pl.set t p) nw (as ++ [t]) := flen_le fun v mv hv => by
      unfold homeL at hv ⊢
      rw [hgd]
      by_cases c : t = v
      · subst c
        simp at hv
        exact (hwt (by simpa using hv.2)).elim
      · rw [if_neg c]
        simp only [hmem v c]
        exact hv
    have only : ∀ a, a ∈ as ++ [t] → (pl.set t p).getD a 0 ≠ nw.getD a 0 → a = t := fun a ma ha => by
      rw [hgd] at ha
      by_cases c : t = a
      · exact c.symm
      · rw [if_neg c] at ha
        exact (ha (hno a ((hmem a c).mp ma))).elim
    refine ⟨fun a b ma mb ha hb2 => (only a ma ha).trans (only b mb hb2).symm, ?_⟩
    rcases Nat.lt_or_ge (homeN ts.length olds (pl.set t p) nw (as ++ [t])) (as ++ [t]).length with z | z
    · right
      have hlen : (as ++ [t]).length = as.length + 1 := by simp
      refine ⟨by omega, t, u, by simp, ht, ?_, hu, hut, ?_⟩
      · rw [hgd, if_pos rfl]; exact hpne
      · rw [hgd, if_neg (Ne.symm hut)]; exact hocc
    · left; exact z
end FM
namespace FM
open PySem PySem.Spec L2 PyProof.Rows
theorem wF_ex {r : FR} {p : O → Prop} (h : wF r fun o _ => p o) : ∃ o outs, r = .ret o outs ∧ p o := by
  cases r with
  | ret o outs => exact ⟨o, outs, rfl, h⟩
  | _ => exact h.elim
theorem next_two {ts : List (Int × Int)} {olds pl nw : List Int} {fs : List (Nat × Int)} {as : List Nat} (ho : okT ts) (hw : nw.length = ts.length) (hne : pl ≠ nw) (hs : sepG ts nw) (hb : ∀ t, t < ts.length → 0 ≤ nw.getD t 0 ∧ nw.getD t 0 % (thG ts t).2 = 0) (M : MovOk ts olds nw pl fs as) :
    ∃ t p, nextG ts pl nw as = (t, p) ∧ t < ts.length ∧ pl.getD t 0 ≠ nw.getD t 0 ∧ ((p = nw.getD t 0 ∧ MovOk ts olds nw (pl.set t p) (fs ++ [(t, p)]) as) ∨ (t ∉ as ∧ p ≠ nw.getD t 0 ∧ hgtG ts nw ≤ p ∧ p ≤ aboveG ts pl nw + 64 ∧ MovOk ts olds nw (pl.set t p) (fs ++ [(t, p)]) (as ++ [t]))) := by
  cases hf : (wtsG ts.length pl nw).find? (freeAt ts pl nw) with
  | some t =>
    obtain ⟨ht, hwt⟩ := wts_mem.mp (List.mem_of_find?_eq_some hf)
    exact ⟨t, nw.getD t 0, by unfold nextG; rw [hf], ht, hwt, .inl ⟨rfl, direct_ok ho hw hs hb M hf⟩⟩
  | none =>
    have hne2 := next_ok ho M.len hw hne hs M.high hf
    cases hF : (wtsG ts.length pl nw).filter (notIn as) with
    | nil => exact (hne2 hF).elim
    | cons t F =>
      have mt : t ∈ (wtsG ts.length pl nw).filter (notIn as) := hF ▸ List.mem_cons_self
      obtain ⟨m1, m2⟩ := List.mem_filter.mp mt
      obtain ⟨ht, hwt⟩ := wts_mem.mp m1
      have hbb := okT_G ho ht
      obtain ⟨u1, u2⟩ := up_is (e := aboveG ts pl nw) (b := (thG ts t).2) (by omega)
      have h5 := end_le (t := t) ht hw
      have h6 : hgtG ts nw ≤ aboveG ts pl nw := by unfold aboveG; split <;> omega
      have Z := aside_ok ho hw hs hb M hf hF
      refine ⟨t, up (aboveG ts pl nw) (thG ts t).2, by unfold nextG; rw [hf]; simp only; unfold sideG; rw [hF], ht, hwt, .inr ⟨by simpa [notIn] using m2, by omega, by omega, by omega, Z⟩⟩
theorem mov_init {ts : List (Int × Int)} {olds nw : List Int} (hl : olds.length = ts.length) : MovOk ts olds nw olds [] [] :=
  ⟨hl, fun t _ m => (by cases m), rfl, fun t ht => by simp [cntG], fun t ht _ => by simp [cntG], fun t ht => .inl rfl, List.nodup_nil, fun t m => (by cases m), fun _ => ⟨fun a b m => (by cases m), .inl (Nat.zero_le _)⟩⟩
def bdG (k : Nat) : Int := 1000000000000 + (200 - (k : Int)) * 2000000000
def okM (n : Nat) (B : Int) (fs : List (Nat × Int)) : Prop := ∀ q ∈ fs, q.1 < n ∧ 0 ≤ q.2 ∧ q.2 ≤ B
def movI (ts : List (Int × Int)) (olds nw : List Int) (k : Nat) (ρ : List O) : Prop := ∃ (pl : List Int) (fs : List (Nat × Int)) (as : List Nat) (x6 x7 : O),
  ρ = [.fz (.tuple (ts.map thD)), .fz (.list (olds.map .int)), .fz (.list (nw.map .int)), .lst (pl.map .int), .lst (fs.map mvD), .lst (as.map natD), x6, x7] ∧
  MovOk ts olds nw pl fs as ∧ k = measG ts.length pl nw as ∧ (∀ t, 0 ≤ pl.getD t 0 ∧ pl.getD t 0 ≤ bdG k) ∧ okM ts.length (bdG 0) fs ∧ fs.length + k ≤ 160 ∧ as.length + k ≤ 160
theorem moves_w {ts : List (Int × Int)} {olds nw : List Int} (ho : okT ts) (hn : ts.length ≤ 80) (hl : olds.length = ts.length) (hw : nw.length = ts.length) (hs : sepG ts nw) (hbd : ∀ t, t < ts.length → 0 ≤ nw.getD t 0 ∧ nw.getD t 0 % (thG ts t).2 = 0)
    (hbo : ∀ t, 0 ≤ olds.getD t 0 ∧ olds.getD t 0 ≤ 1000000000000) (hbn : ∀ t, 0 ≤ nw.getD t 0 ∧ nw.getD t 0 ≤ 1000000000000) :
    wF (f_moves [.fz (.tuple (ts.map thD)), .fz (.list (olds.map .int)), .fz (.list (nw.map .int))]) (fun o _ => ∃ fs as, o = .lst (fs.map mvD) ∧ okM ts.length (bdG 0) fs ∧ fs.length ≤ 160 ∧ MovOk ts olds nw nw fs as) := by
  unfold f_moves m_moves
  rw [wF_defN, wS_seq]
  simp
  rw [wS_seq]
  have hm0 : measG ts.length olds nw [] ≤ 2 * ts.length := meas_le
  refine wS_whileI (movI ts olds nw) (measG ts.length olds nw []) ⟨olds, [], [], _, _, rfl, mov_init hl, rfl, (fun t => ⟨(hbo t).1, by have := hbo t; unfold bdG; omega⟩), (fun q m => by cases m), by simp; omega, by simp; omega⟩ ?_
  rintro k ρ ⟨pl, fs, as, x6, x7, rfl, M, hk, hb, hfs, hfl, hal⟩
  have hpl := M.len
  have hh := M.high
  have ene := oNe_ints (x := .lst (pl.map .int)) (y := .fz (.list (nw.map .int))) rfl rfl
  by_cases hne : pl = nw
  · subst hne
    simp [ene]
    exact ⟨fs, rfl, hfs, by omega, as, M⟩
  · obtain ⟨t, p, en, ht, hwt, hp⟩ := next_two ho hw hne hs hbd M
    have qn := q_next (as := as) ho (by omega) hpl hw (next_ok ho hpl hw hne hs hh)
    rw [en] at qn
    simp [ene, hne]
    rw [wS_seq]
    have e2 := at_pl (pl := nw) (t := t) (by omega)
    have es := fSetI_n (v := p) (hpl ▸ ht : t < pl.length)
    have hfz : fs.length < 16777216 := by omega
    have ap1 : fAppend (as.map natD) [.int (t : Int)] = some (.none, as.map natD ++ [.int (t : Int)]) := fAppend_eq (by simp [sizeLine]; omega)
    have ap2 : fAppend (fs.map mvD) [.tuple [.int (t : Int), .int p]] = some (.none, fs.map mvD ++ [.tuple [.int (t : Int), .int p]]) := fAppend_eq (by simp [sizeLine]; omega)
    have hle : ∀ as', (∀ u, u ≠ t → (u ∈ as' ↔ u ∈ as)) → valG (pl.set t p) nw as' t < valG pl nw as t → measG ts.length (pl.set t p) nw as' < k := fun as' ha hv => by
      rw [hk]
      refine sum_lt (fun u mu => ?_) ⟨t, List.mem_range.mpr ht, hv⟩
      by_cases c : u = t
      · rw [c]; omega
      · have : valG (pl.set t p) nw as' u = valG pl nw as u := by
          unfold valG
          rw [getD_set (hpl ▸ ht : t < pl.length), if_neg (Ne.symm c)]
          simp only [ha u c]
        omega
    have hab : aboveG ts pl nw ≤ bdG k + 1000000000 := by
      have hk24 : k ≤ 160 := by omega
      have h0 : (0 : Int) ≤ bdG k + 1000000000 := by unfold bdG; omega
      have h1 : hgtG ts pl ≤ bdG k + 1000000000 := hgt_le h0 hpl fun t ht => by
        have := okT_G ho ht
        have := hb t
        omega
      have h2 : hgtG ts nw ≤ bdG k + 1000000000 := hgt_le h0 hw fun t ht => by
        have := okT_G ho ht
        have := hbn t
        have : (1000000000000 : Int) ≤ bdG k := by unfold bdG; omega
        omega
      unfold aboveG
      split <;> omega
    have hp0 : 0 ≤ p ∧ p ≤ bdG k + 1100000000 := by
      have hbk : (1000000000000 : Int) ≤ bdG k := by unfold bdG; omega
      rcases hp with ⟨hp, _⟩ | ⟨_, _, hp1, hp2, _⟩
      · have := hbn t
        omega
      · have h1 := hbn t
        have h2 := end_le (t := t) ht hw
        have h3 := okT_G ho ht
        omega
    have hgd : ∀ u, (pl.set t p).getD u 0 = if t = u then p else pl.getD u 0 := fun u => getD_set (hpl ▸ ht : t < pl.length)
    have fin : ∀ as' : List Nat, measG ts.length (pl.set t p) nw as' < k → MovOk ts olds nw (pl.set t p) (fs ++ [(t, p)]) as' → as'.length ≤ as.length + 1 → ∃ m, m < k ∧ movI ts olds nw m [.fz (.tuple (ts.map thD)), .fz (.list (olds.map .int)), .fz (.list (nw.map .int)), .lst ((pl.set t p).map .int), .lst ((fs ++ [(t, p)]).map mvD), .lst (as'.map natD), .fz (.int (t : Int)), .fz (.int p)] := fun as' h1 h2 h3 => by
      have hbk : bdG k + 2000000000 ≤ bdG (measG ts.length (pl.set t p) nw as') := by unfold bdG; omega
      have hb0 : bdG (measG ts.length (pl.set t p) nw as') ≤ bdG 0 := by unfold bdG; omega
      refine ⟨_, h1, pl.set t p, fs ++ [(t, p)], as', _, _, rfl, h2, rfl, fun u => ?_, fun q m => ?_, by simp; omega, by omega⟩
      · rw [hgd]
        split
        · omega
        · have := hb u; omega
      · rcases List.mem_append.mp m with m | m
        · exact hfs q m
        · rw [List.mem_singleton.mp m]
          exact ⟨ht, hp0.1, by simp only; omega⟩
    have hv2 : 0 < valG pl nw as t := by unfold valG; rw [if_neg hwt]; split <;> omega
    rcases hp with ⟨hp, M2⟩ | ⟨hp1, hp2, hp3, hp4, M2⟩
    · have f1 := fin as (hle as (fun _ _ => Iff.rfl) (by unfold valG at hv2 ⊢; rw [hgd, if_pos rfl, if_pos hp]; exact hv2)) M2 (by omega)
      rw [← hp] at e2
      simp [qCall, flatOs, flatO, toPDs, qn, imm_mv]
      simp [mvD]
      rw [wS_seq]
      simp [e2]
      rw [wS_seq]
      simp [es, -fSetI_i, sizeLine, ap2]
      refine ⟨_, _, ⟨rfl, rfl⟩, ?_⟩
      simpa [mvD, natD] using f1
    · have f1 := fin (as ++ [t]) (hle (as ++ [t]) (fun u hu => by simp [hu]) (by unfold valG; rw [hgd, if_pos rfl, if_neg hp2, if_neg hwt, if_neg hp1, if_pos (by simp)]; omega)) M2 (by simp)
      generalize nw.getD t 0 = b at e2 hp2
      simp [qCall, flatOs, flatO, toPDs, qn, imm_mv]
      simp [mvD]
      rw [wS_seq]
      simp [e2, hp2, ap1]
      refine ⟨_, _, ⟨rfl, rfl⟩, ?_⟩
      rw [wS_seq]
      simp [es, -fSetI_i, sizeLine, ap2]
      refine ⟨_, _, ⟨rfl, rfl⟩, ?_⟩
      simpa [mvD, natD] using f1
end FM
namespace FM
open PySem PySem.Spec L2 PyProof.Rows
theorem end_cnt {ts : List (Int × Int)} {olds nw : List Int} {fs : List (Nat × Int)} {as : List Nat} (M : MovOk ts olds nw nw fs as) {t : Nat} (ht : t < ts.length) : cntG fs t ≤ 2 ∧ (cntG fs t ≠ 0 → olds.getD t 0 ≠ nw.getD t 0) := by
  have h := M.cnt t ht
  unfold valG at h
  by_cases c : olds.getD t 0 = nw.getD t 0
  · rw [if_pos c] at h
    exact ⟨by omega, fun z => by omega⟩
  · rw [if_neg c] at h
    refine ⟨?_, fun _ => c⟩
    simp at h
    omega
end FM
namespace FM
open PySem PySem.Spec L2 PyProof.Rows
/-! ### the moves of a floor -/
section
variable {al : Bool} {P : List FE}
theorem srtN_nd {l : List Nat} (h : l.Nodup) : (srtN l).Nodup := by
  have h1 : (gI l).Nodup := List.Pairwise.map _ (fun a b n q => n (Int.ofNat.inj q)) h
  have h2 : (gI (srtN l)).Nodup := by
    rw [← srtN_i]
    exact (sortI_perm _).nodup_iff.mpr h1
  exact List.Pairwise.imp (fun {a b} q z => q (by rw [z])) (List.pairwise_map.mp h2)
def ordG (L : List FE) : List Nat := srtN (idsF L)
def tsG (L : List FE) : List (Int × Int) := (ordG L).map fun t => (entF L t).2.1
def olG (L : List FE) : List Int := (ordG L).map fun t => (entF L t).2.2
def nwG (L : List FE) (g : List Nat) : List Int := (ordG L).map fun t => (entF (anewG L g) t).2.2
theorem ord_len {L : List FE} : (ordG L).length = L.length := by
  unfold ordG
  rw [srtN_len]
  exact List.length_map _
theorem ord_mem {L : List FE} {t : Nat} : t ∈ ordG L ↔ t ∈ idsF L := srtN_mem
theorem ts_len {L : List FE} : (tsG L).length = L.length := by rw [tsG, List.length_map, ord_len]
theorem ol_len {L : List FE} : (olG L).length = L.length := by rw [olG, List.length_map, ord_len]
theorem nw_len {L : List FE} {g : List Nat} : (nwG L g).length = L.length := by rw [nwG, List.length_map, ord_len]
/-- what stands at i -/
theorem ord_at {L : List FE} {g : List Nat} {m : Nat} (h : okF L P g m) {i : Nat} (hi : i < L.length) : ∃ e ∈ L, (ordG L)[i]? = some e.1 ∧ thG (tsG L) i = e.2.1 ∧ (olG L).getD i 0 = e.2.2 ∧ (nwG L g).getD i 0 = (entF (anewG L g) e.1).2.2 := by
  have hi' : i < (ordG L).length := by rw [ord_len]; exact hi
  have et := List.getElem?_eq_getElem hi'
  have mt := ord_mem.mp (List.getElem_mem hi')
  obtain ⟨e, me, e1⟩ := mem_ids mt
  refine ⟨e, me, by rw [et, e1], ?_, ?_, ?_⟩
  · unfold thG tsG
    rw [List.getD_eq_getElem?_getD, List.getElem?_map, et, ← e1]
    show (entF L e.1).2.1 = _
    rw [ent_self h.nd me]
  · unfold olG
    rw [List.getD_eq_getElem?_getD, List.getElem?_map, et, ← e1]
    show (entF L e.1).2.2 = _
    rw [ent_self h.nd me]
  · unfold nwG
    rw [List.getD_eq_getElem?_getD, List.getElem?_map, et, ← e1]
    rfl
theorem ord_ne {L : List FE} {g : List Nat} {m : Nat} (h : okF L P g m) {i j : Nat} {a b : Nat} (ha : (ordG L)[i]? = some a) (hb : (ordG L)[j]? = some b) (ne : i ≠ j) : a ≠ b := by
  have nd : (ordG L).Nodup := srtN_nd h.nd
  intro e
  subst e
  obtain ⟨hi, e1⟩ := List.getElem?_eq_some_iff.mp ha
  obtain ⟨hj, e2⟩ := List.getElem?_eq_some_iff.mp hb
  rcases Nat.lt_or_gt_of_ne ne with q | q
  · exact (List.pairwise_iff_getElem.mp nd i j hi hj q) (by rw [e1, e2])
  · exact (List.pairwise_iff_getElem.mp nd j i hj hi q) (by rw [e1, e2])
theorem bd_out {l : List Int} {B : Int} (hB : 0 ≤ B) (h : ∀ i, i < l.length → 0 ≤ l.getD i 0 ∧ l.getD i 0 ≤ B) : ∀ i, 0 ≤ l.getD i 0 ∧ l.getD i 0 ≤ B := fun i => by
  rcases Nat.lt_or_ge i l.length with q | q
  · exact h i q
  · rw [List.getD_eq_getElem?_getD, List.getElem?_eq_none q]
    exact ⟨Int.le_refl _, hB⟩
theorem moves_of {L : List FE} {g : List Nat} {m : Nat} (h : okF L P g m) (hA : okA al L) : ∃ fs as, qOf f_moves [.tuple ((tsG L).map thD), .list ((olG L).map .int), .list ((nwG L g).map .int)] = some (.list (fs.map mvD)) ∧ okM L.length (bdG 0) fs ∧ fs.length ≤ 160 ∧ MovOk (tsG L) (olG L) (nwG L g) (nwG L g) fs as ∧ (al = true → slotOk (tsG L) (olG L) (nwG L g)) := by
  have hN := anew_ok h hA
  have ho : okT (tsG L) := fun p mp => by
    obtain ⟨t, mt, rfl⟩ := List.mem_map.mp mp
    obtain ⟨me, _⟩ := entF_is (ord_mem.mp mt)
    obtain ⟨t1, t2, t3, _⟩ := h.th _ me
    exact ⟨t1, hA.hi _ me, t2, t3⟩
  have hs : sepG (tsG L) (nwG L g) := fun t u ht hu ne => by
    rw [ts_len] at ht hu
    obtain ⟨e, me, e1, e2, _, e4⟩ := ord_at (g := g) h ht
    obtain ⟨f, mf, f1, f2, _, f4⟩ := ord_at (g := g) h hu
    obtain ⟨a1, a2, a3⟩ := anew_ent h me
    obtain ⟨b1, b2, b3⟩ := anew_ent h mf
    rw [e2, e4, f2, f4, ← a3, ← b3]
    exact sep_all hN.sep a1 b1 (by rw [a2, b2]; exact ord_ne h e1 f1 fun z => ne z.symm)
  have hbd : ∀ t, t < (tsG L).length → 0 ≤ (nwG L g).getD t 0 ∧ (nwG L g).getD t 0 % (thG (tsG L) t).2 = 0 := fun t ht => by
    rw [ts_len] at ht
    obtain ⟨e, me, _, e2, _, e4⟩ := ord_at (g := g) h ht
    obtain ⟨a1, a2, a3⟩ := anew_ent h me
    rw [e2, e4, ← a3]
    exact ⟨anew_pos h _ a1, hN.bd _ a1⟩
  have hbo : ∀ t, 0 ≤ (olG L).getD t 0 ∧ (olG L).getD t 0 ≤ 1000000000000 := bd_out (by decide) fun t ht => by
    rw [ol_len] at ht
    obtain ⟨e, me, _, _, e3, _⟩ := ord_at (g := g) h ht
    rw [e3]
    have := hA.ub e me
    exact ⟨(h.th e me).2.2.2, by omega⟩
  have hbn : ∀ t, 0 ≤ (nwG L g).getD t 0 ∧ (nwG L g).getD t 0 ≤ 1000000000000 := bd_out (by decide) fun t ht => by
    rw [nw_len] at ht
    obtain ⟨e, me, _, _, _, e4⟩ := ord_at (g := g) h ht
    obtain ⟨a1, _, _⟩ := anew_ent h me
    rw [e4]
    have := hN.ub _ a1
    exact ⟨anew_pos h _ a1, by omega⟩
  have hln := hA.ln
  obtain ⟨o, outs, eo, fs, as, rfl, m1, m2, m3⟩ := wF_ex (moves_w ho (by rw [ts_len]; exact hln) (by rw [ol_len, ts_len]) (by rw [nw_len, ts_len]) hs hbd hbo hbn)
  rw [ts_len] at m1
  refine ⟨fs, as, ?_, m1, m2, m3, fun a => ⟨8, by decide, fun t ht => ?_⟩⟩
  · show (match f_moves [.fz (.tuple ((tsG L).map thD)), .fz (.list ((olG L).map .int)), .fz (.list ((nwG L g).map .int))] with | .ret o _ => toPD o | _ => none) = _
    rw [eo]
    rfl
  · rw [ts_len] at ht
    obtain ⟨e, me, _, e2, e3, e4⟩ := ord_at (g := g) h ht
    obtain ⟨a1, a2, a3⟩ := anew_ent h me
    rw [e2, e3, e4]
    obtain ⟨k1, _, k2⟩ := hA.ak a e me
    obtain ⟨_, _, k3⟩ := hN.ak a _ a1
    exact ⟨k1, ⟨e.2.2 / 8, by omega⟩, ⟨(entF (anewG L g) e.1).2.2 / 8, by omega⟩⟩
end
end FM
namespace FM
open PySem PySem.Spec L2 PyProof.Rows
/-! ### regrow -/
section
variable {al : Bool} {P : List FE}
def mvN (L : List FE) (q : Nat × Int) : PD := .tuple [.int (((ordG L).getD q.1 0 : Nat) : Int), .int q.2]
theorem hgt_new {L : List FE} {g : List Nat} {m : Nat} (h : okF L P g m) : topD 0 (List.zipWith (fun (t : Int × Int) p => p + t.1) (tsG L) (nwG L g)) = hiF (anewG L g) := by
  have e : List.zipWith (fun (t : Int × Int) p => p + t.1) (tsG L) (nwG L g) = ((ordG L).map (entF (anewG L g))).map fun e => e.2.2 + e.2.1.1 := by
    unfold tsG nwG
    rw [List.zipWith_map, List.map_map]
    have : ∀ l : List Nat, (∀ t ∈ l, t ∈ idsF L) → List.zipWith (fun a b => (entF (anewG L g) b).2.2 + (entF L a).2.1.1) l l = l.map ((fun e : FE => e.2.2 + e.2.1.1) ∘ entF (anewG L g)) := fun l => by
      induction l with
      | nil => intro _; rfl
      | cons t l ih =>
        intro hm
        have ih := ih fun u mu => hm u (List.mem_cons_of_mem _ mu)
        obtain ⟨e, me, rfl⟩ := mem_ids (hm t List.mem_cons_self)
        rw [List.zipWith_cons_cons, List.map_cons, ih]
        obtain ⟨_, _, a3⟩ := anew_ent h me
        show ((entF (anewG L g) e.1).2.2 + (entF L e.1).2.1.1) :: _ = ((entF (anewG L g) e.1).2.2 + (entF (anewG L g) e.1).2.1.1) :: _
        rw [ent_self h.nd me, a3]
    exact this _ fun t mt => ord_mem.mp mt
  rw [e]
  have p : ((ordG L).map (entF (anewG L g))).Perm (anewG L g) := by
    have hnd := (anew_of h).nd
    refine perm_ids ?_ hnd fun e => ⟨fun me => ?_, fun me => ?_⟩
    · unfold idsF
      rw [List.map_map]
      have : (ordG L).map ((fun x : FE => x.1) ∘ entF (anewG L g)) = ordG L := by
        refine (List.map_congr_left fun t mt => ?_).trans (List.map_id _)
        exact (entF_is ((anew_ids h).mpr (ord_mem.mp mt))).2
      rw [this]
      exact srtN_nd h.nd
    · obtain ⟨t, mt, rfl⟩ := List.mem_map.mp me
      exact (entF_is ((anew_ids h).mpr (ord_mem.mp mt))).1
    · exact List.mem_map.mpr ⟨e.1, ord_mem.mpr ((anew_ids h).mp (List.mem_map.mpr ⟨e, me, rfl⟩)), ent_self hnd me⟩
  have hp : ∀ e ∈ anewG L g, 1 ≤ e.2.1.1 ∧ 0 ≤ e.2.2 := fun e me => by
    obtain ⟨x, mx, _, x2⟩ := (anew_of h).th e me
    have := (h.th x mx).1
    rw [x2] at this
    exact ⟨this, anew_pos h e me⟩
  exact hiF_perm p hp
theorem regrow_spec {L : List FE} {g : List Nat} {m : Nat} {Q : O → List O → Prop} (h : okF L P g m) (hA : okA al L)
    (q1 : ¬ hiF (anewG L g) < hiF L → Q (.lst []) [flO L P g m])
    (q2 : hiF (anewG L g) < hiF L → ∀ fs as, okM L.length (bdG 0) fs → fs.length ≤ 160 → MovOk (tsG L) (olG L) (nwG L g) (nwG L g) fs as → (al = true → slotOk (tsG L) (olG L) (nwG L g)) → Q (.lst (fs.map (mvN L))) [flO (atNew L g) (anewG L g) g m]) : wF (f_Floor_regrow [flO L P g m]) Q := by
  unfold f_Floor_regrow m_Floor_regrow
  have hl := h.len
  have hml := h.ml
  obtain ⟨fs, as, eq, m1, m2, m3, m4⟩ := moves_of (g := g) h hA
  have n1 := fun x h1 h2 h3 h4 => lu_no (a := .dic (thK L)) (b := .dic (plK P)) (c := .lst (gN g)) (d := .fz (.int (m : Int))) (x := x) h1 h2 h3 h4
  have np := n1 "placed_anew" (by decide) (by decide) (by decide) (by decide)
  have nh := n1 "height" (by decide) (by decide) (by decide) (by decide)
  rw [wF_defN, wS_seq]
  have es : oSortV [.dic (thK L)] = some (.lst (gN (ordG L))) := oSortV_th
  simp only [flO]
  simp [-List.lookup_eq_none_iff, es, np]
  refine anew_floor h ?_
  simp [-List.lookup_eq_none_iff, refO, fzs, sizeLine]
  have hTl : (gN (ordG L)).length ≤ 16777216 := by rw [gN_len, ord_len]; omega
  have l1 : ∀ x3 x5 x6 x7 : O, lcGo (fName 4) qYes (qOp oIx (qFld 0 0 "things") (qVar 4)) [flO L P g m, .fz (.list (gN (ordG L))), .dic (plK (anewG L g)), x3, .dead, x5, x6, x7] (gN (ordG L)) = some ((tsG L).map thD) := fun x3 x5 x6 x7 => by
    unfold gN tsG
    rw [List.map_map]
    refine lcGo_enc fun t mt => ⟨_, rfl, ?_⟩
    obtain ⟨e, me, rfl⟩ := mem_ids (ord_mem.mp mt)
    have e1 : oIx (.dic (thK L)) (.fz (.int (e.1 : Int))) = some (.fz (thD e.2.1)) := oIx_dicO (lk_mapK (f := fun e => thD e.2.1) h.nd me)
    simp [flO, natD, e1, ent_self h.nd me]
  have l2 : ∀ x3 x5 x6 x7 : O, lcGo (fName 4) qYes (qOp oIx (qVar 2) (qVar 4)) [flO L P g m, .fz (.list (gN (ordG L))), .dic (plK (anewG L g)), x3, .dead, x5, x6, x7] (gN (ordG L)) = some ((nwG L g).map .int) := fun x3 x5 x6 x7 => by
    unfold gN nwG
    rw [List.map_map]
    refine lcGo_enc fun t mt => ⟨_, rfl, ?_⟩
    obtain ⟨e, me, rfl⟩ := mem_ids (ord_mem.mp mt)
    obtain ⟨a1, a2, _⟩ := anew_ent h me
    have e1 := oIx_dicO (lk_mapK (f := fun e => .int e.2.2) (anew_of h).nd a1)
    rw [a2] at e1
    have e1 : oIx (.dic (plK (anewG L g))) (.fz (.int (e.1 : Int))) = some (.fz (.int (entF (anewG L g) e.1).2.2)) := e1
    simp [natD, e1]
  have l3 : ∀ x3 x5 x6 x7 : O, lcGo (fName 4) qYes (qOp oIx (qFld 0 0 "own_places") (qVar 4)) [flO L P g m, .fz (.list (gN (ordG L))), .dic (plK (anewG L g)), x3, .dead, x5, x6, x7] (gN (ordG L)) = some ((olG L).map .int) := fun x3 x5 x6 x7 => by
    unfold gN olG
    rw [List.map_map]
    refine lcGo_enc fun t mt => ⟨_, rfl, ?_⟩
    obtain ⟨e, me, rfl⟩ := mem_ids (ord_mem.mp mt)
    have e1 : oIx (.dic (plK P)) (.fz (.int (e.1 : Int))) = some (.fz (.int e.2.2)) := oIx_dicO (h.lkP me)
    simp [flO, natD, e1, ent_self h.nd me]
  have l4 : ∀ x2 x3 x5 x6 : O, lcGo (fTup 2 (fCons (fName 4) (fCons (fName 7) fNil))) qYes (qTup (qCons (qOp oIx (qVar 1) (qVar 4)) (qCons (qVar 7) qNil))) [flO (atNew L g) (anewG L g) g m, .fz (.list (gN (ordG L))), x2, x3, .dead, x5, x6, .dead] (fs.map mvD) = some (fs.map (mvN L)) := fun x2 x3 x5 x6 => by
    refine lcGo_enc fun q mq => ⟨_, rfl, ?_⟩
    obtain ⟨b1, b2, b3⟩ := m1 q mq
    have hq : q.1 < (ordG L).length := by rw [ord_len]; exact b1
    have e1 : oIx (.fz (.list (gN (ordG L)))) (.fz (.int (q.1 : Int))) = some (.fz (.int (((ordG L).getD q.1 0 : Nat) : Int))) := by
      rw [oIx_l, atI_nn (by omega)]
      unfold gN
      rw [Int.toNat_natCast, List.getElem?_map, List.getElem?_eq_getElem hq, List.getD_eq_getElem?_getD, List.getElem?_eq_getElem hq]
      rfl
    simp [natD, e1, sizeLine, mvN]
  have eqh : qOf f_height_things [.tuple ((tsG L).map thD), .list ((nwG L g).map .int)] = some (.int (hiF (anewG L g))) := by
    rw [q_height (by rw [ts_len]; omega) (by rw [nw_len, ts_len]), hgt_new h]
  have hz1 : ((tsG L).map thD).length ≤ 16777216 := by rw [List.length_map, ts_len]; omega
  rw [wS_seq]
  simp [-List.lookup_eq_none_iff, sizeLine, hTl, l1]
  rw [wS_seq]
  simp [-List.lookup_eq_none_iff, sizeLine, hTl, l2]
  rw [wS_seq, wS_if]
  simp [-List.lookup_eq_none_iff, qCall, eqh]
  simp only [flO]
  simp [-List.lookup_eq_none_iff, nh]
  refine height_spec h ?_
  by_cases c : hiF (anewG L g) < hiF L
  · have c' : ¬ hiF L ≤ hiF (anewG L g) := by omega
    have q := q2 c fs as m1 m2 m3 m4
    simp [-List.lookup_eq_none_iff, c']
    rw [wS_seq]
    have hfl : fs.length ≤ 16777216 := by omega
    simp [-List.lookup_eq_none_iff, sizeLine, hTl, l3, qCall, eq]
    rw [wS_seq]
    simp only [flO]
    simp [-List.lookup_eq_none_iff]
    have ef : flO (atNew L g) (anewG L g) g m = .ins 0 [(kT, .dic (thK L)), (kO, .dic (plK (anewG L g))), (kH, .lst (gN g)), (kM, .fz (.int (m : Int)))] := by
      unfold flO
      rw [atNew_th h]
    rw [ef] at q l4
    simp [-List.lookup_eq_none_iff, sizeLine, hfl, l4]
    exact q
  · have c' : hiF L ≤ hiF (anewG L g) := by omega
    have q := q1 c
    simp [-List.lookup_eq_none_iff, c']
    exact q
end
end FM
namespace FM
open PySem PySem.Spec L2 PyProof.Rows
/-! ### the moves played by numbers -/
section
variable {al : Bool} {P : List FE}
def idxG (L : List FE) (t : Nat) : Nat := (ordG L).idxOf t
def setP (L P : List FE) (pl : List Int) : List FE := P.map fun e => (e.1, e.2.1, pl.getD (idxG L e.1) 0)
theorem idx_is {L : List FE} {g : List Nat} {m : Nat} (h : okF L P g m) {e : FE} (me : e ∈ L) : idxG L e.1 < L.length ∧ (ordG L)[idxG L e.1]? = some e.1 ∧ thG (tsG L) (idxG L e.1) = e.2.1 ∧ (olG L).getD (idxG L e.1) 0 = e.2.2 ∧ (nwG L g).getD (idxG L e.1) 0 = (entF (anewG L g) e.1).2.2 := by
  have mo : e.1 ∈ ordG L := ord_mem.mpr (List.mem_map.mpr ⟨e, me, rfl⟩)
  have hi : idxG L e.1 < (ordG L).length := List.idxOf_lt_length_iff.mpr mo
  have hg : (ordG L)[idxG L e.1]? = some e.1 := by
    rw [List.getElem?_eq_getElem hi]
    exact congrArg some (List.getElem_idxOf hi)
  have hl : idxG L e.1 < L.length := by rw [ord_len] at hi; exact hi
  obtain ⟨f, mf, f1, f2, f3, f4⟩ := ord_at (g := g) h hl
  rw [hg] at f1
  have e1 := Option.some.inj f1
  have ef : f = e := by rw [← ent_self h.nd mf, ← ent_self h.nd me, e1]
  rw [ef] at f2 f3 f4
  exact ⟨hl, hg, f2, f3, f4⟩
theorem idx_at {L : List FE} {g : List Nat} {m : Nat} (h : okF L P g m) {i t : Nat} (hi : (ordG L)[i]? = some t) : idxG L t = i := by
  have mt : t ∈ ordG L := List.mem_of_getElem? hi
  have hj : idxG L t < (ordG L).length := List.idxOf_lt_length_iff.mpr mt
  have hg : (ordG L)[idxG L t]? = some t := by
    rw [List.getElem?_eq_getElem hj]
    exact congrArg some (List.getElem_idxOf hj)
  rcases Nat.decEq (idxG L t) i with ne | e
  · exact absurd rfl (ord_ne h hg hi ne)
  · exact e
theorem setP_ids {L : List FE} {pl : List Int} : idsF (setP L P pl) = idsF P := by
  unfold idsF setP
  rw [List.map_map]
  rfl
theorem setP_old {L : List FE} {g : List Nat} {m : Nat} (h : okF L P g m) : setP L P (olG L) = P := by
  unfold setP
  refine (List.map_congr_left fun e me => ?_).trans (List.map_id _)
  obtain ⟨_, _, _, h4, _⟩ := idx_is h (h.pm.mem_iff.mp me)
  rw [h4]
  rfl
theorem setP_put {L : List FE} {g : List Nat} {m i t : Nat} {p : Int} {pl : List Int} (h : okF L P g m) (hi : (ordG L)[i]? = some t) (hpl : pl.length = L.length) : putD (plK (setP L P pl)) (.inl (t : Int)) (.int p) = plK (setP L P (pl.set i p)) := by
  have mt : t ∈ idsF L := ord_mem.mp (List.mem_of_getElem? hi)
  have hlt : i < pl.length := by
    rw [hpl, ← ord_len]
    exact (List.getElem?_eq_some_iff.mp hi).1
  obtain ⟨e0, me0, et0⟩ := mem_ids (h.inP.mpr mt)
  unfold putD
  rw [if_pos]
  · unfold plK mapK setP
    rw [List.map_map, List.map_map, List.map_map]
    refine List.map_congr_left fun e me => ?_
    show (if kN e.1 = .inl (t : Int) then (kN e.1, PyData.int p) else (kN e.1, PyData.int (pl.getD (idxG L e.1) 0))) = (kN e.1, PyData.int ((pl.set i p).getD (idxG L e.1) 0))
    by_cases c : e.1 = t
    · have hx : idxG L e.1 = i := by rw [c]; exact idx_at h hi
      rw [if_pos (by rw [c]; rfl), hx, List.getD_eq_getElem?_getD, List.getElem?_set_self hlt]
      rfl
    · have ne : ¬ kN e.1 = .inl (t : Int) := fun z => c (Int.ofNat.inj (Sum.inl.inj z))
      have hx : i ≠ idxG L e.1 := fun z => by
        obtain ⟨_, h2, _⟩ := idx_is (g := g) h (h.pm.mem_iff.mp me)
        rw [← z, hi] at h2
        exact c (Option.some.inj h2).symm
      rw [if_neg ne, List.getD_eq_getElem?_getD, List.getD_eq_getElem?_getD, List.getElem?_set_ne hx]
  · rw [List.any_eq_true]
    refine ⟨(kN e0.1, .int (pl.getD (idxG L e0.1) 0)), ?_, ?_⟩
    · unfold plK mapK setP
      rw [List.map_map]
      exact List.mem_map.mpr ⟨e0, me0, rfl⟩
    · rw [et0]
      exact decide_eq_true rfl
theorem lk_setP {L : List FE} {g : List Nat} {m : Nat} {e : FE} {pl : List Int} (h : okF L P g m) (me : e ∈ L) : lk (plK (setP L P pl)) (.inl (e.1 : Int)) = some (.int (pl.getD (idxG L e.1) 0)) := by
  have nd : (idsF (setP L P pl)).Nodup := by rw [setP_ids]; exact h.ndP
  have mm : (e.1, e.2.1, pl.getD (idxG L e.1) 0) ∈ setP L P pl := List.mem_map.mpr ⟨e, h.pm.mem_iff.mpr me, rfl⟩
  exact lk_mapK (f := fun e => .int e.2.2) nd mm
/-- those handed out stay -/
theorem held_stay {L : List FE} {g : List Nat} {m t : Nat} (h : okF L P g m) (ht : t ∈ g) : (entF (anewG L g) t).2.2 = (entF L t).2.2 := by
  have mh : entF L t ∈ heldG L g := List.mem_map.mpr ⟨t, ht, rfl⟩
  have sub : ∀ i, entF L t ∈ fwdG L g i := fun i => by
    unfold fwdG
    have : ∀ (l F : List FE), entF L t ∈ F → entF L t ∈ l.foldl addG F := fun l => by
      induction l with
      | nil => intro F m; exact m
      | cons x l ih => intro F m; exact ih _ (List.mem_append_left _ m)
    exact this _ _ mh
  have ma : entF L t ∈ anewG L g := by rw [← fwd_all]; exact sub _
  have e1 := ent_self (anew_of h).nd ma
  rw [(entF_is (h.gi t ht)).2] at e1
  rw [e1]
/-- a play, step by step -/
theorem play_at {ts : List (Int × Int)} : ∀ {fs : List (Nat × Int)} {pl r : List Int} {i : Nat} {q : Nat × Int}, playG ts (fs.map mvD) pl = some r → fs[i]? = some q → ∃ p1, playG ts ((fs.take i).map mvD) pl = some p1 ∧ 0 ≤ q.2 ∧ q.1 < ts.length ∧ q.2 % (thG ts q.1).2 = 0 ∧ freeT ts p1 q.1 q.2 = true ∧ playG ts ((fs.take (i + 1)).map mvD) pl = some (p1.set q.1 q.2)
  | [], _, _, _, _, _, e => by simp at e
  | x :: fs, pl, r, i, q, hp, e => by
    rw [List.map_cons] at hp
    unfold playG at hp
    split at hp
    · cases hp
    · rename_i q' e1
      split at hp
      · rename_i hf
        have e2 : q' = x ∧ 0 ≤ x.2 ∧ x.1 < ts.length ∧ x.2 % (thG ts x.1).2 = 0 := by
          have e3 : (if 0 ≤ (x.1 : Int) ∧ 0 ≤ x.2 ∧ (x.1 : Int) < ts.length ∧ x.2 % (thG ts (x.1 : Int).toNat).2 = 0 then some ((x.1 : Int).toNat, x.2) else none) = some q' := e1
          by_cases hc : 0 ≤ (x.1 : Int) ∧ 0 ≤ x.2 ∧ (x.1 : Int) < ts.length ∧ x.2 % (thG ts (x.1 : Int).toNat).2 = 0
          · rw [if_pos hc] at e3
            have e4 := Option.some.inj e3
            rw [Int.toNat_natCast] at hc e4
            exact ⟨e4.symm, hc.2.1, by omega, hc.2.2.2⟩
          · rw [if_neg hc] at e3
            cases e3
        obtain ⟨rfl, x1, x2, x3⟩ := e2
        cases i with
        | zero =>
          simp at e
          subst e
          refine ⟨pl, rfl, x1, x2, x3, hf, ?_⟩
          show playG ts [mvD q'] pl = _
          unfold playG
          rw [e1]
          simp only [hf, if_true]
          rfl
        | succ i =>
          obtain ⟨p1, a1, a2, a3, a4, a5, a6⟩ := play_at hp (by simpa using e)
          refine ⟨p1, ?_, a2, a3, a4, a5, ?_⟩
          · show playG ts (mvD q' :: (fs.take i).map mvD) pl = _
            unfold playG
            rw [e1]
            simp only [hf, if_true]
            exact a1
          · show playG ts (mvD q' :: (fs.take (i + 1)).map mvD) pl = _
            unfold playG
            rw [e1]
            simp only [hf, if_true]
            exact a6
      · cases hp
theorem play_len {ts : List (Int × Int)} : ∀ {xs : List PD} {pl r : List Int}, playG ts xs pl = some r → r.length = pl.length
  | [], pl, r, e => by cases e; rfl
  | x :: xs, pl, r, e => by
    unfold playG at e
    split at e
    · cases e
    · split at e
      · rw [play_len e, List.length_set]
      · cases e
end
end FM
namespace FM
open PySem PySem.Spec L2 PyProof.Rows
/-! ### the law's look at the moves -/
section
variable {al : Bool} {P : List FE}
theorem cnt_pos {fs : List (Nat × Int)} {q : Nat × Int} (m : q ∈ fs) : cntG fs q.1 ≠ 0 := by
  unfold cntG
  intro z
  have := List.length_eq_zero_iff.mp z
  have mm : q ∈ fs.filter fun r => decide (r.1 = q.1) := List.mem_filter.mpr ⟨m, by simp⟩
  rw [this] at mm
  cases mm
/-- what is asked of each move -/
structure StepOk (L P : List FE) (g : List Nat) (fs : List (Nat × Int)) (i : Nat) (q : Nat × Int) (p1 : List Int) (e : FE) : Prop where
  me : e ∈ L
  ot : (ordG L)[q.1]? = some e.1
  ix : idxG L e.1 = q.1
  pl : playG (tsG L) ((fs.take i).map mvD) (olG L) = some p1
  p0 : 0 ≤ q.2
  bd : q.2 % e.2.1.2 = 0
  fr : ∀ f ∈ L, f.1 ≠ e.1 → lieO q.2 e.2.1.1 (p1.getD (idxG L f.1) 0) f.2.1.1 = false
  nx : playG (tsG L) ((fs.take (i + 1)).map mvD) (olG L) = some (p1.set q.1 q.2)
  ne : (entF (anewG L g) e.1).2.2 ≠ e.2.2
  ng : e.1 ∉ g
  ln : p1.length = L.length
theorem step_ok {L : List FE} {g : List Nat} {m : Nat} {fs : List (Nat × Int)} {as : List Nat} {i : Nat} {q : Nat × Int} (h : okF L P g m) (M : MovOk (tsG L) (olG L) (nwG L g) (nwG L g) fs as) (eq : fs[i]? = some q) : ∃ p1 e, StepOk L P g fs i q p1 e := by
  obtain ⟨p1, a1, a2, a3, a4, a5, a6⟩ := play_at M.play eq
  have hq : q.1 < L.length := by rw [ts_len] at a3; exact a3
  obtain ⟨e, me, e1, e2, e3, e4⟩ := ord_at (g := g) h hq
  have ix := idx_at h e1
  have hne := (end_cnt M a3).2 (cnt_pos (List.mem_of_getElem? eq))
  rw [e3, e4] at hne
  refine ⟨p1, e, me, e1, ix, a1, a2, by rw [e2] at a4; exact a4, fun f mf nf => ?_, a6, fun z => hne z.symm, fun z => ?_, by rw [play_len a1, ol_len]⟩
  · obtain ⟨f1, f2, f3, _, _⟩ := idx_is (g := g) h mf
    have hf := List.all_eq_true.mp a5 (idxG L f.1) (List.mem_range.mpr (by rw [ts_len]; exact f1))
    have ne : idxG L f.1 ≠ q.1 := fun z => by
      rw [z, e1] at f2
      exact nf (Option.some.inj f2).symm
    unfold clashG at hf
    rw [f3, e2] at hf
    simpa [ne] using hf
  · have := held_stay h z
    rw [ent_self h.nd me] at this
    exact hne this.symm
end
end FM
namespace FM
open PySem PySem.Spec L2 PyProof.Rows
/-! ### rooms and signs -/
theorem lk_putD {x y : Key} {v : PD} : ∀ {ds : List (Key × PD)}, lk (putD ds x v) y = if x = y then some v else lk ds y := by
  intro ds
  unfold putD
  split
  · rename_i h
    induction ds with
    | nil => simp at h
    | cons p ds ih =>
      obtain ⟨a, b⟩ := p
      rw [List.map_cons]
      by_cases ha : a = x
      · subst ha
        simp only [if_pos]
        rw [lk_cons, lk_cons]
        by_cases hy : a = y
        · simp [hy]
        · simp only [if_neg hy]
          by_cases hr : (ds.any fun kv => decide (kv.1 = a)) = true
          · rw [ih hr, if_neg hy]
          · have : (ds.map fun kv : Key × PD => if kv.1 = a then (kv.1, v) else kv) = ds := by
              rw [List.map_congr_left (g := id) fun q mq => ?_, List.map_id]
              have nq : q.1 ≠ a := fun z => hr (List.any_eq_true.mpr ⟨q, mq, by simpa using z⟩)
              simp [nq]
            rw [this]
      · have h' : (ds.any fun kv => decide (kv.1 = x)) = true := by simpa [ha] using h
        simp only [if_neg ha]
        rw [lk_cons, lk_cons, ih h']
        by_cases hy : a = y
        · subst hy
          simp [Ne.symm ha]
        · simp [hy]
  · rename_i h
    induction ds with
    | nil => rw [List.nil_append, lk_cons]
    | cons p ds ih =>
      obtain ⟨a, b⟩ := p
      have h' : ¬ (ds.any fun kv => decide (kv.1 = x)) = true := fun z => h (by simp [z])
      have na : a ≠ x := fun z => h (by simp [z])
      rw [List.cons_append, lk_cons, lk_cons, ih h']
      by_cases hy : a = y
      · subst hy
        simp [Ne.symm na]
      · simp [hy]
theorem lk_dropD {x y : Key} : ∀ {ds : List (Key × PD)}, lk (dropD ds x) y = if x = y then none else lk ds y := by
  intro ds
  unfold dropD
  induction ds with
  | nil => simp [lk]
  | cons p ds ih =>
    obtain ⟨a, b⟩ := p
    rw [List.filter_cons]
    by_cases ha : a = x
    · subst ha
      simp only [ne_eq, not_true_eq_false, decide_false, Bool.false_eq_true, if_false]
      rw [ih, lk_cons]
      by_cases hy : a = y <;> simp [hy]
    · simp only [ne_eq, ha, not_false_eq_true, decide_true, if_true]
      rw [lk_cons, lk_cons, ih]
      by_cases hy : a = y
      · subst hy
        simp [Ne.symm ha]
      · simp [hy]
theorem putD_le {x : Key} {v : PD} {ds : List (Key × PD)} : (putD ds x v).length ≤ ds.length + 1 := by
  unfold putD
  split <;> simp
theorem dropD_le {x : Key} {ds : List (Key × PD)} : (dropD ds x).length ≤ ds.length := List.length_filter_le _ _
def sgD (t : Nat) (k : Int) : PD := .tuple [.int (t : Int), .int k]
def inE (e : FE) (r : Int) : Prop := e.2.2 ≤ r ∧ r < e.2.2 + e.2.1.1
/-- the signs are just those of all rooms of all things -/
def SgOk (L : List FE) (D : List (Key × PD)) : Prop := ∀ (r : Int) (v : PD), lk D (.inl r) = some v ↔ ∃ e ∈ L, inE e r ∧ v = sgD e.1 (r - e.2.2)
theorem SgOk.at_ {L : List FE} {D : List (Key × PD)} (h : SgOk L D) {e : FE} (me : e ∈ L) {r : Int} (hr : inE e r) : lk D (.inl r) = some (sgD e.1 (r - e.2.2)) := (h r _).mpr ⟨e, me, hr, rfl⟩
theorem SgOk.no {L : List FE} {D : List (Key × PD)} (h : SgOk L D) {r : Int} (hr : ∀ e ∈ L, ¬ inE e r) : lk D (.inl r) = none := by
  cases c : lk D (.inl r) with
  | none => rfl
  | some v =>
    obtain ⟨e, me, he, _⟩ := (h r v).mp c
    exact (hr e me he).elim
theorem SgOk.some {L : List FE} {D : List (Key × PD)} (h : SgOk L D) {r : Int} : (lk D (.inl r)).isSome = true ↔ ∃ e ∈ L, inE e r := by
  constructor
  · intro c
    obtain ⟨v, hv⟩ := Option.isSome_iff_exists.mp c
    obtain ⟨e, me, he, _⟩ := (h r v).mp hv
    exact ⟨e, me, he⟩
  · rintro ⟨e, me, he⟩
    rw [h.at_ me he]
    rfl
theorem SgOk.nil : SgOk [] [] := fun r v => ⟨fun h => (by cases h), fun ⟨e, me, _⟩ => (by cases me)⟩
theorem SgOk.perm {L K : List FE} {D : List (Key × PD)} (h : SgOk L D) (p : ∀ e, e ∈ K ↔ e ∈ L) : SgOk K D := fun r v => by
  rw [h r v]
  exact ⟨fun ⟨e, me, x⟩ => ⟨e, (p e).mpr me, x⟩, fun ⟨e, me, x⟩ => ⟨e, (p e).mp me, x⟩⟩
/-- rooms taken one by one -/
def offD (D : List (Key × PD)) (p : Int) : Nat → List (Key × PD)
  | 0 => D
  | i + 1 => dropD (offD D p i) (.inl (p + i))
theorem lk_off {D : List (Key × PD)} {p r : Int} : ∀ {i : Nat}, lk (offD D p i) (.inl r) = if p ≤ r ∧ r < p + i then none else lk D (.inl r)
  | 0 => by
    rw [if_neg (by omega)]
    rfl
  | i + 1 => by
    show lk (dropD (offD D p i) (.inl (p + i))) (.inl r) = _
    rw [lk_dropD, lk_off (i := i)]
    by_cases h : p + (i : Int) = r
    · rw [if_pos (by rw [h]), if_pos (by omega)]
    · rw [if_neg (fun z => h (Sum.inl.inj z))]
      by_cases h2 : p ≤ r ∧ r < p + (i : Int)
      · rw [if_pos h2, if_pos (by omega)]
      · rw [if_neg h2, if_neg (by omega)]
theorem off_le {D : List (Key × PD)} {p : Int} : ∀ {i : Nat}, (offD D p i).length ≤ D.length
  | 0 => Nat.le_refl _
  | i + 1 => Nat.le_trans dropD_le off_le
/-- rooms filled one by one -/
def onD (D : List (Key × PD)) (t : Nat) (p : Int) : Nat → List (Key × PD)
  | 0 => D
  | i + 1 => putD (onD D t p i) (.inl (p + i)) (sgD t i)
theorem lk_on {D : List (Key × PD)} {t : Nat} {p r : Int} : ∀ {i : Nat}, lk (onD D t p i) (.inl r) = if p ≤ r ∧ r < p + i then some (sgD t (r - p)) else lk D (.inl r)
  | 0 => by
    rw [if_neg (by omega)]
    rfl
  | i + 1 => by
    show lk (putD (onD D t p i) (.inl (p + i)) (sgD t i)) (.inl r) = _
    rw [lk_putD, lk_on (i := i)]
    by_cases h : p + (i : Int) = r
    · rw [if_pos (by rw [h]), if_pos (by omega)]
      have : r - p = i := by omega
      rw [this]
    · rw [if_neg (fun z => h (Sum.inl.inj z))]
      by_cases h2 : p ≤ r ∧ r < p + (i : Int)
      · rw [if_pos h2, if_pos (by omega)]
      · rw [if_neg h2, if_neg (by omega)]
theorem on_le {D : List (Key × PD)} {t : Nat} {p : Int} : ∀ {i : Nat}, (onD D t p i).length ≤ D.length + i
  | 0 => Nat.le_refl _
  | i + 1 => Nat.le_trans putD_le (Nat.succ_le_succ on_le)
theorem inE_lie {e : FE} {p s : Int} (hs : 1 ≤ s) (he : 1 ≤ e.2.1.1) : lieO p s e.2.2 e.2.1.1 = true ↔ ∃ r, (p ≤ r ∧ r < p + s) ∧ inE e r := by
  unfold lieO inE
  rw [Bool.and_eq_true, decide_eq_true_iff, decide_eq_true_iff]
  constructor
  · rintro ⟨h1, h2⟩
    by_cases h : p ≤ e.2.2
    · exact ⟨e.2.2, ⟨by omega, by omega⟩, by omega, by omega⟩
    · exact ⟨p, ⟨by omega, by omega⟩, by omega, by omega⟩
  · rintro ⟨r, h1, h2⟩
    omega
/-- a thing leaves -/
theorem SgOk.rm {L : List FE} {D : List (Key × PD)} {e : FE} (h : SgOk L D) (nd : (idsF L).Nodup) (th : ∀ f ∈ L, 1 ≤ f.2.1.1) (sep : ∀ f ∈ L, f.1 ≠ e.1 → lieO e.2.2 e.2.1.1 f.2.2 f.2.1.1 = false) (me : e ∈ L) : SgOk (rmF L e.1) (offD D e.2.2 e.2.1.1.toNat) := fun r v => by
  have hs := th e me
  have e1 : ((e.2.1.1.toNat : Nat) : Int) = e.2.1.1 := by omega
  rw [lk_off, e1]
  by_cases hr : e.2.2 ≤ r ∧ r < e.2.2 + e.2.1.1
  · rw [if_pos hr]
    constructor
    · intro z
      cases z
    · rintro ⟨f, mf, hf, _⟩
      obtain ⟨mf, nf⟩ := List.mem_filter.mp mf
      have := sep f mf (by simpa using nf)
      have ov := (inE_lie (e := f) (p := e.2.2) (s := e.2.1.1) hs (th f mf)).mpr ⟨r, hr, hf⟩
      rw [this] at ov
      cases ov
  · rw [if_neg hr, h r v]
    constructor
    · rintro ⟨f, mf, hf, hv⟩
      refine ⟨f, List.mem_filter.mpr ⟨mf, ?_⟩, hf, hv⟩
      rw [decide_eq_true_iff]
      intro z
      have : f = e := by
        have := ent_self nd mf
        rw [z, ent_self nd me] at this
        exact this.symm
      rw [this] at hf
      exact hr hf
    · rintro ⟨f, mf, hf, hv⟩
      exact ⟨f, (List.mem_filter.mp mf).1, hf, hv⟩
/-- a thing more -/
theorem SgOk.add {L : List FE} {D : List (Key × PD)} {t : Nat} {th : Int × Int} {p : Int} (h : SgOk L D) (hs : 1 ≤ th.1) (hp : ∀ f ∈ L, 1 ≤ f.2.1.1) (sep : ∀ f ∈ L, lieO p th.1 f.2.2 f.2.1.1 = false) : SgOk (L ++ [(t, th, p)]) (onD D t p th.1.toNat) := fun r v => by
  have e1 : ((th.1.toNat : Nat) : Int) = th.1 := by omega
  rw [lk_on, e1]
  have no : ∀ f ∈ L, inE f r → ¬ (p ≤ r ∧ r < p + th.1) := fun f mf hf hr => by
    have ov := (inE_lie (e := f) (p := p) (s := th.1) hs (hp f mf)).mpr ⟨r, hr, hf⟩
    rw [sep f mf] at ov
    cases ov
  by_cases hr : p ≤ r ∧ r < p + th.1
  · rw [if_pos hr]
    constructor
    · intro z
      cases z
      exact ⟨(t, th, p), List.mem_append_right _ (List.mem_singleton.mpr rfl), hr, rfl⟩
    · rintro ⟨f, mf, hf, rfl⟩
      rcases List.mem_append.mp mf with mf | mf
      · exact (no f mf hf hr).elim
      · rw [List.mem_singleton.mp mf]
  · rw [if_neg hr, h r v]
    constructor
    · rintro ⟨f, mf, x⟩
      exact ⟨f, List.mem_append_left _ mf, x⟩
    · rintro ⟨f, mf, hf, hv⟩
      rcases List.mem_append.mp mf with mf | mf
      · exact ⟨f, mf, hf, hv⟩
      · rw [List.mem_singleton.mp mf] at hf
        exact (hr hf).elim
end FM
namespace FM
open PySem PySem.Spec L2 PyProof.Rows
theorem q_rooms {s b p : Int} (hs : 0 ≤ s) (hs2 : s ≤ 1000) (hp : 0 ≤ p) (hp2 : p ≤ 10 ^ 15) : qOf f__law_rooms [thD (s, b), .int p] = some (.list ((rngL p s.toNat).map .int)) := by
  apply qof_of
  unfold f__law_rooms m__law_rooms
  rw [wF_defN]
  have e := qLrg2_i (a := qVar 1) (b := qOp oAdd (qVar 1) (qOp oIx (qVar 0) (qC (.int 0)))) (ρ := [.fz (thD (s, b)), .fz (.int p)]) (m := p) (n := p + s) (by omega) (by omega) (by omega) (by omega) (by simp) (by simp [thD])
  have e2 : (p + s - p).toNat = s.toNat := by omega
  rw [e2] at e
  simp [e]
theorem small_spec {a s c : Int} {n : Nat} {Q : O → List O → Prop} (ha : 0 ≤ a) (hs : 0 ≤ s) (hs2 : s < 2 ^ 62) (hc : 0 ≤ c) (hc2 : c ≤ n) (hn : n < 2 ^ 39) (q : ∀ a' c' z b, 0 ≤ a' → 0 ≤ c' → c' ≤ ((n + 2 : Nat) : Int) → 1 ≤ z → z ≤ 12 → 1 ≤ b → b ≤ 16 → Q (.fz (thD (z, b))) [tpO a' s c']) : wF (f__law_small [tpO a s c]) Q := by
  unfold f__law_small m__law_small
  rw [wF_defN]
  simp [tpO]
  refine draw_spec (m := 12) ha hs hs2 hc hc2 (by omega) (by decide) (by decide) fun r1 a1 c1 g1 g2 g3 g4 g5 => ?_
  simp [sizeLine]
  refine draw_spec (m := 8) (n := n + 1) g3 hs hs2 g4 g5 (by omega) (by decide) (by decide) fun r2 a2 c2 k1 k2 k3 k4 k5 => ?_
  simp
  have hb : ∃ b : Int, atI [PyData.int 1, .int 2, .int 4, .int 8, .int 3, .int 5, .int 6, .int 16] r2 = some (.int b) ∧ 1 ≤ b ∧ b ≤ 16 := by
    have h8 : r2 = 0 ∨ r2 = 1 ∨ r2 = 2 ∨ r2 = 3 ∨ r2 = 4 ∨ r2 = 5 ∨ r2 = 6 ∨ r2 = 7 := by omega
    rcases h8 with rfl | rfl | rfl | rfl | rfl | rfl | rfl | rfl <;> exact ⟨_, rfl, by decide, by decide⟩
  obtain ⟨b, e, b1, b2⟩ := hb
  simp [e]
  exact q _ _ _ _ k3 k4 (by omega) (by omega) (by omega) b1 b2
theorem rng_len {p : Int} {n : Nat} : (rngL p n).length = n := by simp [rngL]
theorem rng_mem {p r : Int} {n : Nat} : r ∈ rngL p n ↔ p ≤ r ∧ r < p + n := by
  unfold rngL
  rw [List.mem_map]
  constructor
  · rintro ⟨i, mi, rfl⟩
    have := List.mem_range.mp mi
    omega
  · intro h
    exact ⟨(r - p).toNat, List.mem_range.mpr (by omega), by omega⟩
theorem least_spec {th : Int × Int} {L : List FE} {D : List (Key × PD)} {Q : O → List O → Prop} (h : SgOk L D) (h1 : 1 ≤ th.1) (h2 : th.1 ≤ 12) (hb : 1 ≤ th.2) (ok : ∀ e ∈ L, 1 ≤ e.2.1.1 ∧ 0 ≤ e.2.2) (hl : leastG th (occ L) ≤ 10 ^ 13) (q : Q (.fz (.int (leastG th (occ L)))) [.dead, .dic D]) : wF (f__law_least [.fz (thD th), .dic D]) Q := by
  obtain ⟨s, b⟩ := th
  obtain ⟨r1, r2, r3, r4, _⟩ := leastG_is (th := (s, b)) (xs := occ L) h1 hb fun y my => by
    obtain ⟨e, me, rfl⟩ := List.mem_map.mp my
    exact (ok e me).1
  generalize hg : leastG (s, b) (occ L) = lg at *
  unfold f__law_least m__law_least
  rw [wF_defN, wS_seq]
  simp
  rw [wS_seq]
  refine wS_whileI (fun n ρ => ∃ p x3, ρ = [.fz (thD (s, b)), .dic D, .fz (.int p), x3] ∧ 0 ≤ p ∧ p % b = 0 ∧ p ≤ lg ∧ n = (lg - p).toNat) (lg.toNat) ⟨0, _, rfl, by omega, by simp, r2, by omega⟩ ?_
  rintro n ρ ⟨p, x3, rfl, p0, pb, pl, rfl⟩
  have e1 := q_rooms (s := s) (b := b) (p := p) (by omega) (by omega) p0 (by omega)
  have hz : s.toNat ≤ sizeLine := by unfold sizeLine; omega
  have l1 : lcGo (fName 3) qYes (qOp oIn (qVar 3) (qVar 1)) [.fz (thD (s, b)), .dic D, .fz (.int p), .dead] ((rngL p s.toNat).map .int) = some ((rngL p s.toNat).map fun r => .bool (lk D (.inl r)).isSome) := by
    refine lcGo_enc fun r mr => ⟨_, rfl, ?_⟩
    simp [oIn_dic]
  have hany : ((rngL p s.toNat).any fun r => (lk D (.inl r)).isSome) = !freeB s (occ L) p := by
    rw [Bool.eq_iff_iff, List.any_eq_true, Bool.not_eq_true', ← Bool.not_eq_true]
    unfold freeB
    rw [List.all_eq_true]
    constructor
    · rintro ⟨r, mr, hr⟩ z
      obtain ⟨e, me, he⟩ := h.some.mp hr
      have := z (e.2.2, e.2.1) (List.mem_map.mpr ⟨e, me, rfl⟩)
      have ov := (inE_lie (e := e) (p := p) (s := s) h1 (ok e me).1).mpr ⟨r, by have := rng_mem.mp mr; omega, he⟩
      unfold lieO at ov
      simp at this ov
      omega
    · intro z
      apply Classical.byContradiction
      intro y
      refine z fun x mx => ?_
      obtain ⟨e, me, rfl⟩ := List.mem_map.mp mx
      have ov := inE_lie (e := e) (p := p) (s := s) h1 (ok e me).1
      cases c : lieO p s e.2.2 e.2.1.1 with
      | true =>
        obtain ⟨r, hr, he⟩ := ov.mp c
        exact (y ⟨r, rng_mem.mpr (by omega), h.some.mpr ⟨e, me, he⟩⟩).elim
      | false =>
        unfold lieO at c
        simp at c ⊢
        omega
  have hbo : boolsD ((rngL p s.toNat).map fun r => PyData.bool (lk D (.inl r)).isSome) = some ((rngL p s.toNat).map fun r => (lk D (.inl r)).isSome) := boolsD_fun _
  have hany2 : ((rngL p s.toNat).map fun r => (lk D (.inl r)).isSome).any id = !freeB s (occ L) p := by
    rw [List.any_map]
    exact hany
  simp [qCall, e1, rng_len, hz, l1, hbo, -List.any_map, hany2]
  by_cases hf : freeB s (occ L) p = true
  · left
    refine ⟨hf, ?_⟩
    by_cases hp : p = lg
    · rw [hp]
      exact q
    · exact (r4 p p0 pb (by omega) (freeB_iff.mp hf)).elim
  · right
    have hf' : freeB s (occ L) p = false := by simpa using hf
    have hne : p ≠ lg := fun z => hf (freeB_iff.mpr (by rw [z]; exact r3))
    have r1' : lg % b = 0 := r1
    have hb' : 1 ≤ b := hb
    refine ⟨hf', .int (p + b), by simp [thD], ?_⟩
    have hlt : p + b ≤ lg := by
      obtain ⟨x, hx⟩ := Int.dvd_of_emod_eq_zero pb
      obtain ⟨y, hy⟩ := Int.dvd_of_emod_eq_zero r1'
      have hxy : x < y := by
        apply Classical.byContradiction
        intro z
        have : b * y ≤ b * x := Int.mul_le_mul_of_nonneg_left (by omega) (by omega)
        omega
      have : b * (x + 1) ≤ b * y := Int.mul_le_mul_of_nonneg_left (by omega) (by omega)
      rw [Int.mul_add, Int.mul_one] at this
      omega
    exact ⟨(lg - (p + b)).toNat, by omega, p + b, rfl, by omega, by rw [Int.add_emod_right]; exact pb, hlt, rfl⟩
end FM
namespace FM
open PySem PySem.Spec L2 PyProof.Rows
theorem oLook_kp {D : List (Key × PD)} {i : Int} (h : D ≠ []) : oLook (.fz (.dict (D.map kp))) (.fz (.int i)) = some (lk D (.inl i)) := by
  have e : dicK (.fz (.dict (D.map kp))) = some D := by
    cases D with
    | nil => exact (h rfl).elim
    | cons p r => exact unkp_kp (p :: r)
  unfold oLook
  rw [e]
  rfl
theorem enumR_at : ∀ {n i : Nat} {xs : List PD}, (enumGo n xs)[i]? = xs[i]?.map fun x => .tuple [natD (n + i), x]
  | n, i, [] => by simp [enumGo]
  | n, 0, x :: xs => rfl
  | n, i + 1, x :: xs => by
    show (enumGo (n + 1) xs)[i]? = _
    rw [enumR_at, List.getElem?_cons_succ, Nat.add_right_comm, Nat.add_assoc]
theorem enumR_len : ∀ {n : Nat} {xs : List PD}, (enumGo n xs).length = xs.length
  | _, [] => rfl
  | n, x :: xs => congrArg (· + 1) (enumR_len (n := n + 1) (xs := xs))
theorem rng_at {p : Int} {n i : Nat} : (rngL p n)[i]? = if i < n then some (p + (i : Int)) else none := by
  unfold rngL
  rw [List.getElem?_map]
  by_cases h : i < n
  · rw [List.getElem?_range h, if_pos h]
    rfl
  · rw [if_neg h, List.getElem?_eq_none (by simpa using h)]
    rfl
theorem enum_rng {p : Int} {n i : Nat} {x : PD} (h : (enumGo 0 ((rngL p n).map PyData.int))[i]? = some x) : x = .tuple [.int (i : Int), .int (p + (i : Int))] ∧ i < n := by
  rw [enumR_at, List.getElem?_map, rng_at] at h
  by_cases hi : i < n
  · rw [if_pos hi] at h
    cases h
    exact ⟨by rw [Nat.zero_add]; rfl, hi⟩
  · rw [if_neg hi] at h
    cases h
structure Wo (L P : List FE) (g : List Nat) (m : Nat) (D : List (Key × PD)) (B : Nat) : Prop where
  ok : okF L P g m
  oa : okA false L
  sg : SgOk L D
  s12 : ∀ e ∈ L, e.2.1.1 ≤ 12
  len : D.length ≤ B
  bb : B ≤ 10 ^ 7
theorem Wo.pos {L P : List FE} {g : List Nat} {m B : Nat} {D : List (Key × PD)} (w : Wo L P g m D B) : ∀ e ∈ L, 1 ≤ e.2.1.1 ∧ 0 ≤ e.2.2 := fun e me => ⟨(w.ok.th e me).1, (w.ok.th e me).2.2.2⟩
theorem wM_mget1 {m : M O} {qb : QE} {ρ : List O} {Q : O → List O → Prop} : wM (mGet1 m qb ρ) Q = wM (m ρ) fun o ρ1 => ∃ d, o = .fz d ∧ ∃ y, qb ρ1 = some y ∧ ∃ r, oGet1 (.fz d) y = some (.fz r) ∧ Q (.fz r) ρ1 := by
  unfold mGet1
  cases e : m ρ with
  | ok o ρ1 =>
    cases o with
    | fz d =>
      simp only [wM_ok]
      cases e2 : qb ρ1 with
      | none => simp [wM]
      | some y =>
        cases e3 : oGet1 (.fz d) y with
        | none => simp [wM, e3]
        | some r => cases r <;> simp [wM, e3]
    | _ => simp [wM]
  | exc x ρ1 => simp [wM]
  | bad => simp [wM]
theorem come_law {L P : List FE} {g : List Nat} {m B n : Nat} {D : List (Key × PD)} {a s c : Int} {Q : O → List O → Prop} (w : Wo L P g m D B) (hm : m < 79) (hB : B ≤ 10 ^ 6) (ha : 0 ≤ a) (hs : 0 ≤ s) (hs2 : s < 2 ^ 62) (hc : 0 ≤ c) (hc2 : c ≤ n) (hn : n < 2 ^ 39)
    (q : ∀ a' c' L' P' D', 0 ≤ a' → 0 ≤ c' → c' ≤ ((n + 2 : Nat) : Int) → Wo L' P' g (m + 1) D' (B + 12) → L'.length = L.length + 1 → (∀ t ∈ g, entF L' t = entF L t) → Q (.fz (.bool true)) [tpO a' s c', flO L' P' g (m + 1), .dic (thK L'), .dic D']) :
    wF (f__law_come [tpO a s c, flO L P g m, .dic (thK L), .dic D]) Q := by
  unfold f__law_come m__law_come
  have n1 := fun x h1 h2 h3 h4 => lu_no (a := .dic (thK L)) (b := .dic (plK P)) (c := .lst (gN g)) (d := .fz (.int (m : Int))) (x := x) h1 h2 h3 h4
  have nc := n1 "come" (by decide) (by decide) (by decide) (by decide)
  rw [wF_defN, wS_seq]
  simp [-List.lookup_eq_none_iff, tpO]
  refine small_spec ha hs hs2 hc hc2 hn fun a1 c1 z b g1 g2 g3 g4 g5 g6 g7 => ?_
  obtain ⟨r1, r2, r3, r4, _⟩ := least_ok (s := z) (b := b) w.pos w.oa g4 (by omega) g6 (by omega)
  simp [-List.lookup_eq_none_iff]
  rw [wS_seq]
  simp [-List.lookup_eq_none_iff, thD]
  refine least_spec (th := (z, b)) w.sg g4 g5 g6 w.pos (by omega) ?_
  simp [-List.lookup_eq_none_iff, flO, nc]
  refine come_spec w.ok g4 g6 (by omega) ?_
  generalize hp : leastG (z, b) (occ L) = p at *
  simp [-List.lookup_eq_none_iff]
  have ok2 : okF (L ++ [(m, (z, b), p)]) (P ++ [(m, (z, b), p)]) g (m + 1) := by
    have := okF_come w.ok (by omega) g4 g6 (by omega : b ≤ 64)
    rw [hp] at this
    exact this
  have nm : m ∉ idsF L := fun y => by
    obtain ⟨e, me, rfl⟩ := mem_ids y
    have := w.ok.lt e me
    omega
  have hl : L.length ≤ 78 := by have := w.ok.len; omega
  have oa2 : okA false (L ++ [(m, (z, b), p)]) := by
    have := okA_add (t := m) w.pos w.oa (by omega) g4 (by omega) g6 (by omega : b ≤ 64) (fun y => by cases y)
    rw [hp] at this
    exact this
  have ep : lk (plK (P ++ [(m, (z, b), p)])) (.inl (m : Int)) = some (.int p) := ok2.lkP (e := (m, (z, b), p)) (List.mem_append_right _ (List.mem_singleton.mpr rfl))
  have np := lu_no (a := .dic (thK (L ++ [(m, (z, b), p)]))) (b := .dic (plK (P ++ [(m, (z, b), p)]))) (c := .lst (gN g)) (d := .fz (.int ((m : Int) + 1))) (x := "places") (by decide) (by decide) (by decide) (by decide)
  rw [wS_seq]
  simp [-List.lookup_eq_none_iff, flO, np, tpO, wM_mget1]
  refine places_spec ?_
  have lt : (lk (thK L) (.inl (m : Int))).isSome = false := by
    unfold thK
    rw [lk_someK]
    simpa using nm
  have ex : (L ++ [(m, (z, b), p)]) ≠ [] := by simp
  have eg : oGet1 (.fz (.dict ((plK (P ++ [(m, (z, b), p)])).map kp))) (.fz (.int (m : Int))) = some (.fz (.int p)) := by
    unfold oGet1
    rw [oLook_kp (by simp [plK, mapK])]
    rw [ep]
    rfl
  have eb : oListD [.dic (thK L)] = some (.lst (L.map fun e => natD e.1)) := by
    simp [thK, keysD_mapK]
  obtain ⟨M, eM, hM⟩ : ∃ M : Int, oMax1 [.fz (.list ((L.map fun e => natD e.1) ++ [.int (-1)]))] = some (.fz (.int M)) ∧ M < m := by
    have e : (L.map fun e => natD e.1) ++ [PyData.int (-1)] = ((L.map fun e : FE => (e.1 : Int)) ++ [-1]).map .int := by
      rw [List.map_append, List.map_map]
      rfl
    refine ⟨maxI ((L.map fun e : FE => (e.1 : Int)) ++ [-1]), by rw [e, oMax1_l (by simp)], ?_⟩
    have := (maxI_is (ns := (L.map fun e : FE => (e.1 : Int)) ++ [-1]) (by simp)).1
    rcases List.mem_append.mp this with y | y
    · obtain ⟨e, me, h⟩ := List.mem_map.mp y
      have := w.ok.lt e me
      omega
    · have := List.mem_singleton.mp y
      omega
  have hM' : ¬ ((m : Int) ≤ M) := by omega
  have hz1 : L.length + 1 ≤ sizeLine := by unfold sizeLine; omega
  have hz2 : L.length ≤ sizeLine := by unfold sizeLine; omega
  have pt := putD_mapK (f := fun e => thD e.2.1) (L := L) (e := (m, (z, b), p)) nm
  have er := q_rooms (s := z) (b := b) (p := p) (by omega) (by omega) r2 (by omega)
  simp [-List.lookup_eq_none_iff, oIn_dic, lt, eg, eb, sizeLine]
  have hle : L.length ≤ 16777215 := by omega
  simp [-List.lookup_eq_none_iff, hle, eM, hM']
  rw [wS_seq]
  have hkl : (mapK (fun e => thD e.2.1) L).length < 16777216 := by rw [mapK_len]; omega
  simp [-List.lookup_eq_none_iff, keyO, sizeLine, thK, hkl]
  have pt' : putD (mapK (fun e => thD e.2.1) L) (.inl (m : Int)) (.tuple [.int z, .int b]) = thK (L ++ [(m, (z, b), p)]) := pt
  have er' : qOf f__law_rooms [.tuple [.int z, .int b], .int p] = some (.list ((rngL p z.toNat).map .int)) := er
  rw [pt', wS_seq]
  have hrl : (rngL p z.toNat).length ≤ 16777216 := by rw [rng_len]; omega
  simp [-List.lookup_eq_none_iff, qCall, er', sizeLine, hrl]
  refine wS_forI (fun i ρ => ∃ x7 x8, i ≤ z.toNat ∧ ρ = [tpO a1 s c1, flO (L ++ [(m, (z, b), p)]) (P ++ [(m, (z, b), p)]) g (m + 1), .dic (thK (L ++ [(m, (z, b), p)])), .dic (onD D m p i), .fz (.tuple [.int z, .int b]), .fz (.int p), .fz (.int (m : Int)), x7, x8]) ⟨_, _, Nat.zero_le _, rfl⟩ ?_ ?_
  · rintro i x ρ ei ⟨x7, x8, hi, rfl⟩
    obtain ⟨rfl, hiz⟩ := enum_rng ei
    have hol := on_le (D := D) (t := m) (p := p) (i := i)
    have hdl := w.len
    have hz3 : (onD D m p i).length < 16777216 := by omega
    refine ⟨_, rfl, ?_⟩
    simp [keyO, sizeLine, hz3]
    exact ⟨by omega, rfl⟩
  · rintro ρ ⟨x7, x8, hi, rfl⟩
    have e : (enumGo 0 (List.map PyData.int (rngL p z.toNat))).length = z.toNat := by rw [enumR_len, List.length_map, rng_len]
    rw [e]
    have hol := on_le (D := D) (t := m) (p := p) (i := z.toNat)
    have hdl := w.len
    refine q a1 c1 _ _ _ g1 g2 g3 ⟨ok2, oa2, ?_, ?_, by omega, by omega⟩ (by simp) fun t mt => ?_
    · exact w.sg.add (th := (z, b)) g4 (fun f mf => (w.pos f mf).1) fun f mf => by rw [lieO_comm]; exact r4 f mf
    · intro e me
      rcases List.mem_append.mp me with me | me
      · exact w.s12 e me
      · rw [List.mem_singleton.mp me]
        exact g5
    · obtain ⟨e, me, rfl⟩ := mem_ids (w.ok.gi t mt)
      rw [ent_self w.ok.nd me, ent_self ok2.nd (List.mem_append_left _ me)]
end FM
namespace FM
open PySem PySem.Spec L2 PyProof.Rows
def hdK (L : List FE) (g : List Nat) : List (Key × PD) := g.map fun t => (kN t, .int (entF L t).2.2)
theorem lk_hd {L : List FE} {t : Nat} : ∀ {g : List Nat}, lk (hdK L g) (.inl (t : Int)) = if t ∈ g then some (.int (entF L t).2.2) else none
  | [] => rfl
  | u :: g => by
    show lk ((kN u, PyData.int (entF L u).2.2) :: hdK L g) (.inl (t : Int)) = _
    rw [lk_cons, lk_hd (g := g)]
    by_cases h : u = t
    · subst h
      simp [kN]
    · have h1 : ¬ kN u = .inl (t : Int) := fun z => h (by
        have := Sum.inl.inj z
        omega)
      rw [if_neg h1]
      simp [Ne.symm h]
theorem hd_keys {L : List FE} {g : List Nat} : keysD (hdK L g) = gN g := by
  unfold hdK keysD gN
  rw [List.map_map]
  rfl
theorem srt_perm {l r : List Nat} (p : l.Perm r) : srtN l = srtN r := by
  unfold srtN
  rw [sorted_unique ((sortI_perm (gI l)).trans ((p.map _).trans (sortI_perm (gI r)).symm)) (sortI_sorted _) (sortI_sorted _)]
theorem intK_map {f : FE → PD} : ∀ {F : List FE}, intK (mapK f F) = some (gI (idsF F))
  | [] => rfl
  | e :: F => by
    show (intK (mapK f F)).map ((e.1 : Int) :: ·) = _
    rw [intK_map]
    rfl
theorem oSortV_pl {P : List FE} : oSortV [.fz (.dict ((plK P).map kp))] = some (.lst (gN (srtN (idsF P)))) := by
  have e2 : dkI (.fz (.dict ((plK P).map kp))) = some (gI (idsF P)) := by
    cases P with
    | nil => rfl
    | cons e F =>
      have h : dicK (.fz (.dict ((plK (e :: F)).map kp))) = some (plK (e :: F)) := unkp_kp (plK (e :: F))
      show (match dicK (.fz (.dict ((plK (e :: F)).map kp))) with
        | some ds => intK ds
        | none => none) = _
      rw [h]
      exact intK_map
  rw [oSortV_d rfl e2, srtN_i, ← gN_i]
theorem intK_hd {L : List FE} : ∀ {g : List Nat}, intK (hdK L g) = some (gI g)
  | [] => rfl
  | t :: g => by
    show (intK (hdK L g)).map ((t : Int) :: ·) = _
    rw [intK_hd]
    rfl
theorem oSortV_hd {L : List FE} {g : List Nat} : oSortV [.dic (hdK L g)] = some (.lst ((sortI (gI g)).map .int)) := oSortV_d rfl intK_hd
theorem lies_spec {L P : List FE} {g : List Nat} {m B : Nat} {D : List (Key × PD)} {Q : O → List O → Prop} (w : Wo L P g m D B) (q : Q (.fz (.bool true)) [flO L P g m, .dic (thK L), .dic D, .dic (hdK L g)]) : wF (f__law_lies [flO L P g m, .dic (thK L), .dic D, .dic (hdK L g)]) Q := by
  unfold f__law_lies m__law_lies
  have n1 := fun x h1 h2 h3 h4 => lu_no (a := .dic (thK L)) (b := .dic (plK P)) (c := .lst (gN g)) (d := .fz (.int (m : Int))) (x := x) h1 h2 h3 h4
  have np := n1 "places" (by decide) (by decide) (by decide) (by decide)
  have ng := n1 "given" (by decide) (by decide) (by decide) (by decide)
  have nh := n1 "height" (by decide) (by decide) (by decide) (by decide)
  rw [wF_defN, wS_seq]
  simp [-List.lookup_eq_none_iff, flO, np]
  refine places_spec ?_
  simp [-List.lookup_eq_none_iff, flO]
  rw [wS_seq]
  have es : srtN (idsF P) = srtN (idsF L) := srt_perm (w.ok.pm.map _)
  have en1 : oNe (.fz (.list (gN (srtN (idsF L))))) (.fz (.list (gN (srtN (idsF L))))) = some (.fz (.bool false)) := by
    rw [gN_i, oNe_ints rfl rfl]
    simp
  have en2 : oNe (.fz (.list ((sortI (gI g)).map .int))) (.fz (.list ((sortI (gI g)).map .int))) = some (.fz (.bool false)) := by
    rw [oNe_ints rfl rfl]
    simp
  simp [-List.lookup_eq_none_iff, oSortV_th, oSortV_pl, es, en1, ng]
  refine given_spec ?_
  simp [-List.lookup_eq_none_iff, flO, oSortV_hd, en2]
  rw [wS_seq]
  simp [-List.lookup_eq_none_iff]
  rw [wS_seq]
  refine wS_qs ?_
  have ef : frzJ [1] 0 [O.ins 0 [(kT, O.dic (thK L)), (kO, O.dic (plK P)), (kH, O.lst (gN g)), (kM, O.fz (PyData.int ↑m))], O.dic (thK L), O.dic D, O.dic (hdK L g), O.fz (PyData.dict (List.map kp (plK P))), O.fz (PyData.int 0), O.dead, O.dead, O.dead] = [flO L P g m, .fz (.dict ((thK L).map kp)), .dic D, .dic (hdK L g), .fz (.dict ((plK P).map kp)), .fz (.int 0), .dead, .dead, .dead] := rfl
  rw [ef]
  refine wS_forKQ (ps := (thK L).map kp) rfl ?_
  have ek : keysP ((thK L).map kp) = L.map fun e => natD e.1 := keysP_mapK
  rw [ek]
  refine wS_forI (fun i ρ => ∃ hi x6 x7 x8, ρ = [flO L P g m, .fz (.dict ((thK L).map kp)), .dic D, .dic (hdK L g), .fz (.dict ((plK P).map kp)), .fz (.int hi), x6, x7, x8] ∧ hi = (endsF (L.take i)).foldl max 0 ∧ imOk x6 = true ∧ imOk x7 = true ∧ imOk x8 = true) ⟨0, _, _, _, rfl, rfl, rfl, rfl, rfl⟩ ?_ ?_
  · rintro i x ρ ei ⟨hi, x6, x7, x8, rfl, eh, im6, im7, im8⟩
    rw [List.getElem?_map] at ei
    obtain ⟨e, ee, rfl⟩ := Option.map_eq_some_iff.mp ei
    have me : e ∈ L := List.mem_of_getElem? ee
    refine ⟨_, rfl, ?_⟩
    refine wS_fNoC ?_
    have et : oIx (.fz (.dict ((thK L).map kp))) (.fz (.int (e.1 : Int))) = some (.fz (thD e.2.1)) := oIx_dicF (lk_mapK (f := fun e => thD e.2.1) w.ok.nd me)
    have ep : oIx (.fz (.dict ((plK P).map kp))) (.fz (.int (e.1 : Int))) = some (.fz (.int e.2.2)) := oIx_dicF (w.ok.lkP me)
    have h0 := w.pos e me
    have hub := w.oa.ub e me
    have hbd := w.oa.bd e me
    have h12 := w.s12 e me
    have er := q_rooms (s := e.2.1.1) (b := e.2.1.2) (p := e.2.2) (by omega) (by omega) h0.2 (by omega)
    rw [wS_seq]
    have h1b := (w.ok.th e me).2.1
    have et0 : oIx (.fz (thD e.2.1)) (.fz (.int 0)) = some (.fz (.int e.2.1.1)) := by simp [thD]
    have et1 : oIx (.fz (thD e.2.1)) (.fz (.int 1)) = some (.fz (.int e.2.1.2)) := by simp [thD]
    have emd : oMod (.fz (.int e.2.2)) (.fz (.int e.2.1.2)) = some (.fz (.int 0)) := by rw [oMod_i (by omega), hbd]
    have ein : oIn (.fz (.int (e.1 : Int))) (.dic (hdK L g)) = some (.fz (.bool (decide (e.1 ∈ g)))) := by
      rw [oIn_dic, lk_hd]
      by_cases h : e.1 ∈ g <;> simp [h]
    have hlt : ¬ e.2.2 < 0 := by omega
    have cond : (match (some (decide (e.1 ∈ g)) : Option Bool) with
        | some true => match (match oIx (.dic (hdK L g)) (.fz (.int (e.1 : Int))) with
          | none => none
          | some y => oNe (.fz (.int e.2.2)) y) with
          | some (.fz (.bool b)) => some b
          | x => none
        | r => r) = some false := by
      by_cases h : e.1 ∈ g
      · have eh : oIx (.dic (hdK L g)) (.fz (.int (e.1 : Int))) = some (.fz (.int e.2.2)) := oIx_dicO (by rw [lk_hd, if_pos h, ent_self w.ok.nd me])
        simp [h, eh]
      · simp [h]
    simp [natD, et, ep, et1, emd, ein, hlt]
    refine .inl ⟨cond, ?_⟩
    rw [wS_seq]
    have hrl : (rngL e.2.2 e.2.1.1.toNat).length ≤ sizeLine := by rw [rng_len]; unfold sizeLine; omega
    refine wS_forQ (ds := enumGo 0 ((rngL e.2.2 e.2.1.1.toNat).map .int)) (by simp [et, ep, qCall, er, hrl]) ?_
    refine wS_forI (fun j ρ => ∃ y7 y8, ρ = [flO L P g m, .fz (.dict ((thK L).map kp)), .dic D, .dic (hdK L g), .fz (.dict ((plK P).map kp)), .fz (.int hi), .fz (.int (e.1 : Int)), y7, y8] ∧ imOk y7 = true ∧ imOk y8 = true) ⟨_, _, rfl, im7, im8⟩ ?_ ?_
    · rintro j x ρ ej ⟨y7, y8, rfl, iy7, iy8⟩
      obtain ⟨rfl, hj⟩ := enum_rng ej
      refine ⟨_, rfl, ?_⟩
      refine wS_fNoC ?_
      have es : oGet1 (.dic D) (.fz (.int (e.2.2 + (j : Int)))) = some (.fz (sgD e.1 (j : Int))) := by
        have hr : inE e (e.2.2 + (j : Int)) := ⟨by omega, by omega⟩
        have := w.sg.at_ me hr
        have ej : e.2.2 + (j : Int) - e.2.2 = j := by omega
        rw [ej] at this
        show (some (lk D (.inl (e.2.2 + (j : Int)))) : Option (Option PD)).map (fun r => O.fz (r.getD .none)) = _
        rw [this]
        rfl
      have en : oNe (.fz (sgD e.1 (j : Int))) (.fz (.tuple [.int (e.1 : Int), .int (j : Int)])) = some (.fz (.bool false)) := oNe_self (d := .tuple [.int (e.1 : Int), .int (j : Int)]) (by simp [SeqAt.shaped, PyData.canLay0, PyData.canLayAll0, PyData.depth, PyData.depthAll])
      simp [es, en, sizeLine]
      exact ⟨_, _, ⟨rfl, rfl⟩, rfl, rfl⟩
    · rintro ρ ⟨y7, y8, rfl, iy7, iy8⟩
      simp [et, ep, et0]
      refine ⟨_, _, _, _, ⟨rfl, rfl, rfl, rfl⟩, ?_, rfl, iy7, iy8⟩
      have hi' : i < L.length := (List.getElem?_eq_some_iff.mp ee).1
      have he' : L[i] = e := (List.getElem?_eq_some_iff.mp ee).2
      have : endsF (L.take (i + 1)) = endsF (L.take i) ++ [e.2.2 + e.2.1.1] := by
        unfold endsF
        rw [List.take_succ_eq_append_getElem hi', List.map_append, he']
        rfl
      rw [this, List.foldl_append, ← eh]
      show _ = max hi (e.2.2 + e.2.1.1)
      split <;> omega
  · rintro ρ ⟨hi, x6, x7, x8, rfl, eh, im6, im7, im8⟩
    have hL : (L.map fun e => natD e.1).length = L.length := List.length_map _
    rw [hL, List.take_length] at eh
    have e2 : hi = hiF L := by
      rw [eh]
      unfold hiF
      have hp : ∀ x ∈ endsF L, 0 ≤ x := fun x mx => by
        obtain ⟨e, me, rfl⟩ := List.mem_map.mp mx
        have := w.pos e me
        omega
      generalize endsF L = ys at hp
      cases ys with
      | nil => rfl
      | cons y ys =>
        have := hp y List.mem_cons_self
        show (ys.foldl max (max 0 y)) = ys.foldl max y
        rw [show max 0 y = y by omega]
    subst e2
    refine ⟨?_, ?_⟩
    · have i5 : imOk (.fz (.int (hiF L))) = true := rfl
      simp [mixOk, frOk, im6, im7, im8, i5]
    · have em : mixJ [6, 7, 8, 5] 0 [O.ins 0 [(kT, O.dic (thK L)), (kO, O.dic (plK P)), (kH, O.lst (gN g)), (kM, O.fz (PyData.int ↑m))], O.dic (thK L), O.dic D, O.dic (hdK L g), O.fz (PyData.dict (List.map kp (plK P))), O.fz (PyData.int 0), O.dead, O.dead, O.dead] [flO L P g m, .fz (.dict ((thK L).map kp)), .dic D, .dic (hdK L g), .fz (.dict ((plK P).map kp)), .fz (.int (hiF L)), x6, x7, x8] = [flO L P g m, O.dic (thK L), O.dic D, O.dic (hdK L g), O.fz (PyData.dict (List.map kp (plK P))), O.fz (PyData.int (hiF L)), x6, x7, x8] := rfl
      rw [em]
      simp [-List.lookup_eq_none_iff, flO, nh]
      refine height_spec w.ok ?_
      simp [-List.lookup_eq_none_iff]
      exact q
end FM
namespace FM
open PySem PySem.Spec L2 PyProof.Rows
/-! ### rooms carried move by move -/
def plc (L : List FE) (p1 : List Int) (e : FE) : Int := p1.getD (idxG L e.1) 0
structure MvS (L : List FE) (p1 : List Int) (D : List (Key × PD)) : Prop where
  len : p1.length = L.length
  sg : SgOk (setP L L p1) D
  sep : ∀ e ∈ L, ∀ f ∈ L, e.1 ≠ f.1 → lieO (plc L p1 e) e.2.1.1 (plc L p1 f) f.2.1.1 = false
  bd : ∀ e ∈ L, 0 ≤ plc L p1 e ∧ plc L p1 e ≤ bdG 0
theorem plc_set {L P : List FE} {g : List Nat} {m : Nat} {p1 : List Int} {e f : FE} {p : Int} (h : okF L P g m) (hl : p1.length = L.length) (me : e ∈ L) (mf : f ∈ L) : plc L (p1.set (idxG L e.1) p) f = if f.1 = e.1 then p else plc L p1 f := by
  obtain ⟨h1, h2, _⟩ := idx_is (g := g) h me
  obtain ⟨k1, k2, _⟩ := idx_is (g := g) h mf
  unfold plc
  rw [List.getD_eq_getElem?_getD, List.getElem?_set]
  by_cases c : f.1 = e.1
  · rw [if_pos c, c, if_pos rfl, if_pos (by omega)]
    rfl
  · rw [if_neg c, if_neg (fun z => c ?_)]
    · rw [List.getD_eq_getElem?_getD]
    · rw [z] at h2
      rw [h2] at k2
      exact (Option.some.inj k2).symm
theorem same_e {L P : List FE} {g : List Nat} {m : Nat} {e f : FE} (h : okF L P g m) (me : e ∈ L) (mf : f ∈ L) (c : f.1 = e.1) : f = e := by
  rw [← ent_self h.nd mf, c, ent_self h.nd me]
theorem MvS.step {L P : List FE} {g : List Nat} {m i : Nat} {fs : List (Nat × Int)} {q : Nat × Int} {p1 : List Int} {e : FE} {D : List (Key × PD)} (h : okF L P g m) (S : MvS L p1 D) (st : StepOk L P g fs i q p1 e) (hb : q.2 ≤ bdG 0) :
    MvS L (p1.set q.1 q.2) (onD (offD D (plc L p1 e) e.2.1.1.toNat) e.1 q.2 e.2.1.1.toNat) ∧ (∀ k : Nat, (k : Int) < e.2.1.1 → lk (onD (offD D (plc L p1 e) e.2.1.1.toNat) e.1 q.2 k) (.inl (q.2 + k)) = none) ∧ ∀ k : Nat, (k : Int) < e.2.1.1 → lk (offD D (plc L p1 e) k) (.inl (plc L p1 e + k)) = some (sgD e.1 k) := by
  have me := st.me
  have th : ∀ f ∈ L, 1 ≤ f.2.1.1 := fun f mf => (h.th f mf).1
  have e1 : ((e.2.1.1.toNat : Nat) : Int) = e.2.1.1 := by have := th e me; omega
  have ix : q.1 = idxG L e.1 := st.ix.symm
  let K := setP L L p1
  have mK : ∀ f, f ∈ K ↔ ∃ y ∈ L, f = (y.1, y.2.1, plc L p1 y) := fun f => by
    unfold K setP
    rw [List.mem_map]
    exact ⟨fun ⟨y, my, z⟩ => ⟨y, my, z.symm⟩, fun ⟨y, my, z⟩ => ⟨y, my, z.symm⟩⟩
  have ndK : (idsF K).Nodup := by unfold K; rw [setP_ids]; exact h.nd
  let e' : FE := (e.1, e.2.1, plc L p1 e)
  have me' : e' ∈ K := (mK e').mpr ⟨e, me, rfl⟩
  have thK' : ∀ f ∈ K, 1 ≤ f.2.1.1 := fun f mf => by
    obtain ⟨y, my, rfl⟩ := (mK f).mp mf
    exact th y my
  have s1 := SgOk.rm (e := e') S.sg ndK thK' (fun f mf nf => by
    obtain ⟨y, my, rfl⟩ := (mK f).mp mf
    exact S.sep e me y my fun z => nf z.symm) me'
  have fr : ∀ f ∈ L, f.1 ≠ e.1 → lieO q.2 e.2.1.1 (plc L p1 f) f.2.1.1 = false := st.fr
  have s2 := SgOk.add (t := e.1) (th := e.2.1) (p := q.2) s1 (th e me) (fun f mf => thK' f (List.mem_filter.mp mf).1) fun f mf => by
    obtain ⟨mf, nf⟩ := List.mem_filter.mp mf
    obtain ⟨y, my, rfl⟩ := (mK f).mp mf
    exact fr y my (by simpa using nf)
  refine ⟨⟨by rw [List.length_set]; exact S.len, s2.perm fun f => ?_, fun x mx y my ne => ?_, fun x mx => ?_⟩, fun k hk => ?_, fun k hk => ?_⟩
  · rw [List.mem_append, List.mem_singleton]
    unfold setP
    rw [List.mem_map]
    constructor
    · rintro ⟨y, my, rfl⟩
      have pe := plc_set (p := q.2) h S.len me my
      rw [← ix] at pe
      by_cases c : y.1 = e.1
      · right
        rw [if_pos c] at pe
        have ey := same_e h me my c
        show (y.1, y.2.1, plc L (p1.set q.1 q.2) y) = _
        rw [pe, ey]
      · left
        rw [if_neg c] at pe
        refine List.mem_filter.mpr ⟨(mK _).mpr ⟨y, my, ?_⟩, by simpa using c⟩
        show (y.1, y.2.1, plc L (p1.set q.1 q.2) y) = _
        rw [pe]
    · rintro (mf | rfl)
      · obtain ⟨mf, nf⟩ := List.mem_filter.mp mf
        obtain ⟨y, my, rfl⟩ := (mK f).mp mf
        have c : ¬ y.1 = e.1 := by simpa using nf
        have pe := plc_set (p := q.2) h S.len me my
        rw [← ix, if_neg c] at pe
        exact ⟨y, my, by rw [← pe]; rfl⟩
      · have pe := plc_set (p := q.2) h S.len me me
        rw [← ix, if_pos rfl] at pe
        exact ⟨e, me, by
          show (e.1, e.2.1, plc L (p1.set q.1 q.2) e) = _
          rw [pe]⟩
  · have px := plc_set (p := q.2) h S.len me mx
    have py := plc_set (p := q.2) h S.len me my
    rw [← ix] at px py
    rw [px, py]
    by_cases cx : x.1 = e.1
    · rw [if_pos cx, if_neg (fun z => ne (cx.trans z.symm)), same_e h me mx cx]
      exact fr y my fun z => ne (cx.trans z.symm)
    · rw [if_neg cx]
      by_cases cy : y.1 = e.1
      · rw [if_pos cy, lieO_comm, same_e h me my cy]
        exact fr x mx cx
      · rw [if_neg cy]
        exact S.sep x mx y my ne
  · have px := plc_set (p := q.2) h S.len me mx
    rw [← ix] at px
    rw [px]
    split
    · exact ⟨st.p0, hb⟩
    · exact S.bd x mx
  · rw [lk_on, if_neg (by omega)]
    exact s1.no fun f mf hf => by
      obtain ⟨mf, nf⟩ := List.mem_filter.mp mf
      obtain ⟨y, my, rfl⟩ := (mK f).mp mf
      have ov := (inE_lie (e := (y.1, y.2.1, plc L p1 y)) (p := q.2) (s := e.2.1.1) (th e me) (th y my)).mpr ⟨q.2 + k, ⟨by omega, by omega⟩, hf⟩
      have := fr y my (by simpa using nf)
      rw [show lieO q.2 e.2.1.1 (plc L p1 y) y.2.1.1 = true from ov] at this
      cases this
  · rw [lk_off, if_neg (by omega)]
    have := S.sg.at_ me' (r := plc L p1 e + k) ⟨by show plc L p1 e ≤ _; omega, by show _ < plc L p1 e + e.2.1.1; omega⟩
    rw [this]
    show some (sgD e.1 (plc L p1 e + k - plc L p1 e)) = _
    rw [show plc L p1 e + (k : Int) - plc L p1 e = k by omega]
end FM
namespace FM
open PySem PySem.Spec L2 PyProof.Rows
theorem dictC_pl {F : List FE} (hne : F ≠ []) : oDictC [.fz (.dict ((plK F).map kp))] = some (.dic (plK F)) := by
  have e : dicK (.fz (.dict ((plK F).map kp))) = some (plK F) := by
    cases F with
    | nil => exact absurd rfl hne
    | cons x F => exact unkp_kp (plK (x :: F))
  show (dicK (.fz (.dict ((plK F).map kp)))).map O.dic = _
  rw [e]
  rfl
def sgL (t n : Nat) : List PD := (List.range n).map fun k : Nat => sgD t k
theorem sgL_at {t n k : Nat} (h : k < n) : (sgL t n)[k]? = some (sgD t k) := by
  unfold sgL
  rw [List.getElem?_map, List.getElem?_range h]
  rfl
theorem sgL_succ {t n : Nat} : sgL t (n + 1) = sgL t n ++ [sgD t n] := by
  unfold sgL
  rw [List.range_succ, List.map_append]
  rfl
theorem pops_go {W : List PD → List O → Prop} {D : List (Key × PD)} {p0 : Int} {n t : Nat} {r0 r1 r2 r4 r5 r6 r7 : O} (h : ∀ k, k < n → lk (offD D p0 k) (.inl (p0 + k)) = some (sgD t k)) (hn : n ≤ 1000) (hw : W (sgL t n) [r0, r1, r2, .dic (offD D p0 n), r4, r5, r6, r7, .dead]) : ∀ (j i : Nat), i + j = n →
    lcW (fName 8) (mPopP (gtV 3) (stV 3) (qVar 8)) [8] (((rngL p0 n).drop i).map .int) (sgL t i) [r0, r1, r2, .dic (offD D p0 i), r4, r5, r6, r7, .dead] W
  | 0, i, e => by
    have e : i = n := by omega
    subst e
    rw [List.drop_eq_nil_of_le (by rw [rng_len]; omega)]
    exact hw
  | j + 1, i, e => by
    have hi : i < (rngL p0 n).length := by rw [rng_len]; omega
    have ei : (rngL p0 n)[i] = p0 + i := by
      have := rng_at (p := p0) (n := n) (i := i)
      rw [if_pos (by omega), List.getElem?_eq_getElem hi] at this
      exact Option.some.inj this
    rw [List.drop_eq_getElem_cons hi, ei, List.map_cons]
    refine ⟨_, rfl, ?_⟩
    have hk := h i (by omega)
    have ih := pops_go h hn hw j (i + 1) (by omega)
    rw [sgL_succ] at ih
    have hl : (sgL t i).length < sizeLine := by unfold sgL sizeLine; rw [List.length_map, List.length_range]; omega
    rw [wM_popP]
    exact ⟨_, rfl, _, rfl, _, rfl, _, hk, _, rfl, hl, ih⟩
theorem mvS_0 {L P : List FE} {g : List Nat} {m B : Nat} {D : List (Key × PD)} (w : Wo L P g m D B) : MvS L (olG L) D := by
  have okL : okF L L g m := ⟨w.ok.nd, w.ok.lt, w.ok.th, w.ok.gn, w.ok.gi, w.ok.ml, .refl _⟩
  have pe : ∀ e ∈ L, plc L (olG L) e = e.2.2 := fun e me => (idx_is (g := g) w.ok me).2.2.2.1
  refine ⟨ol_len, by rw [setP_old okL]; exact w.sg, fun e me f mf ne => ?_, fun e me => ?_⟩
  · rw [pe e me, pe f mf]
    obtain ⟨i, hi, ei⟩ := List.getElem_of_mem me
    obtain ⟨j, hj, ej⟩ := List.getElem_of_mem mf
    have nij : i ≠ j := fun z => by subst z; rw [ei] at ej; exact ne (by rw [ej])
    rcases Nat.lt_or_gt_of_ne nij with c | c
    · have := List.pairwise_iff_getElem.mp w.oa.sep i j hi hj c
      rw [ei, ej] at this
      exact this
    · have := List.pairwise_iff_getElem.mp w.oa.sep j i hj hi c
      rw [ei, ej] at this
      rw [lieO_comm]
      exact this
  · rw [pe e me]
    have := w.pos e me
    have := w.oa.ub e me
    unfold bdG
    omega
theorem carried_spec {L P : List FE} {g : List Nat} {m B : Nat} {D : List (Key × PD)} {fs : List (Nat × Int)} {as : List Nat} {Q : O → List O → Prop} (w : Wo L P g m D B) (hne : P ≠ []) (m1 : okM L.length (bdG 0) fs) (hfl : fs.length ≤ 160) (M : MovOk (tsG L) (olG L) (nwG L g) (nwG L g) fs as) (hB : B ≤ 10 ^ 6)
    (q : ∀ D', SgOk (atNew L g) D' → D'.length ≤ B + 1920 → Q (.fz (.bool true)) [.dead, .dead, .dic (thK L), .dic D']) : wF (f__law_carried [.fz (.list (fs.map (mvN L))), .fz (.dict ((plK P).map kp)), .dic (thK L), .dic D]) Q := by
  have hdl := w.len
  unfold f__law_carried m__law_carried
  rw [wF_defN, wS_seq]
  simp [dictC_pl hne]
  rw [wS_seq]
  simp
  refine wS_forI (fun i ρ => ∃ (p1 : List Int) (D1 : List (Key × PD)) (x4 x5 x6 x7 x8 : O), playG (tsG L) ((fs.take i).map mvD) (olG L) = some p1 ∧ MvS L p1 D1 ∧ D1.length ≤ B + 12 * i ∧ ρ = [.fz (.list (fs.map (mvN L))), .dic (plK (setP L P p1)), .dic (thK L), .dic D1, x4, x5, x6, x7, x8]) ⟨olG L, D, _, _, _, _, _, rfl, mvS_0 w, by omega, by rw [setP_old w.ok]⟩ ?_ ?_
  · rintro i x ρ ei ⟨p1, D1, x4, x5, x6, x7, x8, hp, S, hd, rfl⟩
    rw [List.getElem?_map] at ei
    obtain ⟨q0, eq, rfl⟩ := Option.map_eq_some_iff.mp ei
    obtain ⟨p1', e, st⟩ := step_ok w.ok M eq
    have : p1' = p1 := by
      have := st.pl
      rw [hp] at this
      exact (Option.some.inj this).symm
    subst this
    have mq := m1 q0 (List.mem_of_getElem? eq)
    obtain ⟨s1, s2, s3⟩ := S.step w.ok st mq.2.2
    refine ⟨_, rfl, ?_⟩
    rw [wS_seq]
    have eo : (((ordG L).getD q0.1 0 : Nat) : Int) = (e.1 : Int) := by
      rw [List.getD_eq_getElem?_getD, st.ot]
      rfl
    have me := st.me
    have h0 := w.pos e me
    have h12 := w.s12 e me
    obtain ⟨b1, b2⟩ := S.bd e me
    unfold bdG at b2
    have et : oIx (.dic (thK L)) (.fz (.int (e.1 : Int))) = some (.fz (thD e.2.1)) := oIx_dicO (lk_mapK (f := fun e => thD e.2.1) w.ok.nd me)
    have ep : oIx (.dic (plK (setP L P p1'))) (.fz (.int (e.1 : Int))) = some (.fz (.int (plc L p1' e))) := oIx_dicO (lk_setP w.ok me)
    have er := q_rooms (s := e.2.1.1) (b := e.2.1.2) (p := plc L p1' e) (by omega) (by omega) b1 (by omega)
    rw [eo]
    have ih := fun W x7 h => pops_go (W := W) (D := D1) (p0 := plc L p1' e) (n := e.2.1.1.toNat) (t := e.1) (r0 := .fz (.list (fs.map (mvN L)))) (r1 := .dic (plK (setP L P p1'))) (r2 := .dic (thK L)) (r4 := .fz (.int (e.1 : Int))) (r5 := .fz (.int q0.2)) (r6 := x6) (r7 := x7) (fun k hk => s3 k (by omega)) (by omega) h e.2.1.1.toNat 0 (by omega)
    simp
    refine wM_lcI ?_
    simp [et, ep, qCall, er]
    refine ih _ x7 ?_
    rw [wS_seq]
    have er2 := q_rooms (s := e.2.1.1) (b := e.2.1.2) (p := q0.2) (by omega) (by omega) st.p0 (by have := mq.2.2; unfold bdG at this; omega)
    have hrl : (rngL q0.2 e.2.1.1.toNat).length ≤ sizeLine := by rw [rng_len]; unfold sizeLine; omega
    simp [et, qCall, er2, hrl]
    generalize hD2 : offD D1 (plc L p1' e) e.2.1.1.toNat = D2 at *
    have hd2 : D2.length ≤ B + 12 * i := by rw [← hD2]; exact Nat.le_trans off_le hd
    have hil : i < fs.length := (List.getElem?_eq_some_iff.mp eq).1
    refine wS_forI (fun k ρ => ∃ y7 y8, k ≤ e.2.1.1.toNat ∧ ρ = [.fz (.list (fs.map (mvN L))), .dic (plK (setP L P p1')), .dic (thK L), .dic (onD D2 e.1 q0.2 k), .fz (.int (e.1 : Int)), .fz (.int q0.2), .fz (.list (sgL e.1 e.2.1.1.toNat)), y7, y8]) ⟨_, _, Nat.zero_le _, rfl⟩ ?_ ?_
    · rintro k x ρ ek ⟨y7, y8, hk, rfl⟩
      obtain ⟨rfl, hk2⟩ := enum_rng ek
      refine ⟨_, rfl, ?_⟩
      have hno := s2 k (by omega)
      have hol := on_le (D := D2) (t := e.1) (p := q0.2) (i := k)
      have hz : (onD D2 e.1 q0.2 k).length < sizeLine := by unfold sizeLine; omega
      have eold : oIx (.fz (.list (sgL e.1 e.2.1.1.toNat))) (.fz (.int (k : Int))) = some (.fz (sgD e.1 k)) := by
        rw [oIx_l, atI_nn (by omega), Int.toNat_natCast, sgL_at hk2]
        rfl
      rw [wS_seq]
      simp [oIn_dic, hno, eold, keyO, hz]
      exact ⟨by omega, rfl⟩
    · rintro ρ ⟨y7, y8, hk, rfl⟩
      have el : (enumGo 0 (List.map PyData.int (rngL q0.2 e.2.1.1.toNat))).length = e.2.1.1.toNat := by rw [enumR_len, List.length_map, rng_len]
      rw [el]
      have hol := on_le (D := D2) (t := e.1) (p := q0.2) (i := e.2.1.1.toNat)
      have pp := setP_put (p := q0.2) w.ok st.ot S.len
      simp [keyO]
      have hPl : P.length = L.length := w.ok.pm.length_eq
      have hLl := w.oa.ln
      refine ⟨by unfold plK setP sizeLine; rw [mapK_len, List.length_map]; omega, _, ?_, _, s1, by omega, pp, rfl⟩
      have := st.nx
      rw [List.map_take] at this
      exact this
  · rintro ρ ⟨p1, D1, x4, x5, x6, x7, x8, hp, S, hd, rfl⟩
    have hL : (fs.map (mvN L)).length = fs.length := List.length_map _
    rw [hL, List.take_length, M.play] at hp
    have hp := Option.some.inj hp
    subst hp
    rw [hL] at hd
    have hs : SgOk (atNew L g) D1 := S.sg.perm fun f => by
      unfold atNew setP
      rw [List.mem_map, List.mem_map]
      have key : ∀ e ∈ L, entF (anewG L g) e.1 = (e.1, e.2.1, (nwG L g).getD (idxG L e.1) 0) := fun e me => by
        obtain ⟨_, a2, a3⟩ := anew_ent w.ok me
        have a5 := (idx_is (g := g) w.ok me).2.2.2.2
        rw [a5, ← a3]
        exact Prod.ext a2 rfl
      constructor
      · rintro ⟨e, me, rfl⟩
        exact ⟨e, me, (key e me).symm⟩
      · rintro ⟨e, me, rfl⟩
        exact ⟨e, me, key e me⟩
    simp
    exact q D1 hs (by omega)
end FM
namespace FM
open PySem PySem.Spec L2 PyProof.Rows
theorem lay_mv {L : List FE} : ∀ fs : List (Nat × Int), PyData.canLayAll0 (fs.map (mvN L)) = true ∧ PyData.depthAll (fs.map (mvN L)) ≤ 2
  | [] => by simp [PyData.canLayAll0, PyData.depthAll]
  | f :: fs => by
    obtain ⟨h1, h2⟩ := lay_mv (L := L) fs
    refine ⟨?_, ?_⟩
    · simp [mvN, PyData.canLayAll0, PyData.canLay0, h1]
    · simp [mvN, PyData.depthAll, PyData.depth]
      omega
theorem shaped_mv {L : List FE} {fs : List (Nat × Int)} : SeqAt.shaped (.list (fs.map (mvN L))) = true := by
  obtain ⟨h1, h2⟩ := lay_mv (L := L) fs
  simp [SeqAt.shaped, PyData.canLay0, PyData.depth, h1]
  omega
theorem regrown_law {L P : List FE} {g : List Nat} {m B : Nat} {D : List (Key × PD)} {Q : O → List O → Prop} (w : Wo L P g m D B) (hne : L ≠ []) (hB : B ≤ 10 ^ 6)
    (q : ∀ L' P' D', Wo L' P' g m D' (B + 1920) → L'.length = L.length → thK L' = thK L → (∀ t ∈ g, entF L' t = entF L t) → Q (.fz (.bool true)) [flO L' P' g m, .dic (thK L'), .dic D', .dic (hdK L g)]) : wF (f__law_regrown [flO L P g m, .dic (thK L), .dic D, .dic (hdK L g)]) Q := by
  unfold f__law_regrown m__law_regrown
  have hPne : P ≠ [] := fun z => hne (by
    have := w.ok.pm.length_eq
    rw [z] at this
    exact List.length_eq_zero_iff.mp this.symm)
  have n1 := fun x h1 h2 h3 h4 => lu_no (a := .dic (thK L)) (b := .dic (plK P)) (c := .lst (gN g)) (d := .fz (.int (m : Int))) (x := x) h1 h2 h3 h4
  have np := n1 "places" (by decide) (by decide) (by decide) (by decide)
  have nh := n1 "height" (by decide) (by decide) (by decide) (by decide)
  have nr := n1 "regrow" (by decide) (by decide) (by decide) (by decide)
  rw [wF_defN, wS_seq]
  simp [-List.lookup_eq_none_iff, flO, np]
  refine places_spec ?_
  simp [-List.lookup_eq_none_iff, flO, nh]
  refine height_spec w.ok ?_
  simp [-List.lookup_eq_none_iff]
  rw [wS_seq]
  simp [-List.lookup_eq_none_iff, flO, nr]
  refine regrow_spec w.ok w.oa (fun hlow => ?_) fun hlow fs as m1 hfl M hs => ?_
  · simp [-List.lookup_eq_none_iff]
    have e1 : oEq (.fz (.list [])) (.fz (.list [])) = some (.fz (.bool true)) := by rw [oEq_nil rfl]; rfl
    rw [wS_seq]
    simp [-List.lookup_eq_none_iff, e1, sizeLine, flO, np]
    refine places_spec ?_
    have ed : dicK (.fz (.dict ((plK P).map kp))) = some (plK P) := by
      cases P with
      | nil => exact absurd rfl hPne
      | cons x F => exact unkp_kp (plK (x :: F))
    simp [-List.lookup_eq_none_iff, ed, sameI_self w.ok.ndP]
    exact q L P D ⟨w.ok, w.oa, w.sg, w.s12, by have := w.len; omega, by omega⟩ rfl rfl (fun _ _ => rfl)
  · have hfs : fs ≠ [] := fun z => by
      subst z
      have hp := M.play
      have e : olG L = nwG L g := Option.some.inj hp
      have hsame : ∀ x ∈ L, entF (anewG L g) x.1 = x := fun x mx => by
        obtain ⟨_, a2, a3⟩ := anew_ent w.ok mx
        obtain ⟨_, _, _, h4, h5⟩ := idx_is (g := g) w.ok mx
        rw [← e, h4] at h5
        exact Prod.ext a2 (Prod.ext a3 h5.symm)
      have : atNew L g = L := by
        unfold atNew
        exact (List.map_congr_left hsame).trans (List.map_id _)
      have hp2 := atNew_perm w.ok
      rw [this] at hp2
      have := hiF_perm hp2 w.pos
      omega
    have hie : (fs.map (mvN L)).isEmpty = false := by
      cases fs with
      | nil => exact absurd rfl hfs
      | cons x r => rfl
    have e1 : oEq (.fz (.list (fs.map (mvN L)))) (.fz (.list [])) = some (.fz (.bool false)) := by rw [oEq_nil shaped_mv, hie]
    simp [-List.lookup_eq_none_iff]
    rw [wS_seq]
    simp [-List.lookup_eq_none_iff, e1, sizeLine]
    rw [wS_seq]
    have l1 : lcGo (fTup 2 (fCons (fName 7) (fCons (fName 8) fNil))) qYes (qOp oIn (qVar 7) (qVar 3)) [flO (atNew L g) (anewG L g) g m, .dic (thK L), .dic D, .dic (hdK L g), .fz (.dict ((plK P).map kp)), .fz (.int (hiF L)), .fz (.list (fs.map (mvN L))), .dead, .dead] (fs.map (mvN L)) = some (fs.map fun _ => .bool false) := by
      refine lcGo_enc fun q0 mq => ⟨_, rfl, ?_⟩
      obtain ⟨i, hi, ei⟩ := List.getElem_of_mem mq
      obtain ⟨p1, e, st⟩ := step_ok w.ok M (by rw [List.getElem?_eq_getElem hi, ei])
      have eo : (((ordG L).getD q0.1 0 : Nat) : Int) = (e.1 : Int) := by
        rw [List.getD_eq_getElem?_getD, st.ot]
        rfl
      have es : (ordG L)[q0.1]?.getD 0 = e.1 := by rw [st.ot]; rfl
      simp [eo, es, oIn_dic, lk_hd, st.ng]
    have hz : fs.length ≤ sizeLine := by unfold sizeLine; omega
    have hany : oAny [.fz (.list (fs.map fun _ => PyData.bool false))] = some (.fz (.bool false)) := by
      rw [oAny_map]
      simp
    simp [-List.lookup_eq_none_iff, l1, hz, -oAny_l, hany]
    refine carried_spec w hPne m1 hfl M hB fun D' hs' hd' => ?_
    have nh2 := lu_no (a := .dic (thK (atNew L g))) (b := .dic (plK (anewG L g))) (c := .lst (gN g)) (d := .fz (.int (m : Int))) (x := "height") (by decide) (by decide) (by decide) (by decide)
    have ok2 := okF_new w.ok
    have oa2 := okA_new w.ok w.oa
    simp [-List.lookup_eq_none_iff, flO, nh2]
    refine height_spec ok2 ?_
    have hh : hiF (atNew L g) = hiF (anewG L g) := ok2.hi.symm
    have hlt : hiF (atNew L g) < hiF L := by omega
    simp [-List.lookup_eq_none_iff, hlt]
    have := q (atNew L g) (anewG L g) D' ⟨ok2, oa2, hs', fun e me => ?_, hd', by omega⟩ (by unfold atNew; exact List.length_map _) (atNew_th w.ok) fun t mt => ?_
    · rw [atNew_th w.ok] at this
      exact this
    · obtain ⟨x, mx, rfl⟩ := List.mem_map.mp me
      rw [(anew_ent w.ok mx).2.2]
      exact w.s12 x mx
    · obtain ⟨e, me, rfl⟩ := mem_ids (w.ok.gi t mt)
      have mm : entF (anewG L g) e.1 ∈ atNew L g := List.mem_map.mpr ⟨e, me, rfl⟩
      obtain ⟨_, a2, a3⟩ := anew_ent w.ok me
      have := ent_self ok2.nd mm
      rw [a2] at this
      rw [this]
      have hst := held_stay w.ok mt
      rw [ent_self w.ok.nd me] at hst ⊢
      exact Prod.ext a2 (Prod.ext a3 hst)
end FM
namespace FM
open PySem PySem.Spec L2 PyProof.Rows
theorem hdK_congr {L L' : List FE} {g : List Nat} (h : ∀ t ∈ g, entF L' t = entF L t) : hdK L' g = hdK L g := by
  unfold hdK
  exact List.map_congr_left fun t mt => by rw [h t mt]
theorem hd_put {L : List FE} {g : List Nat} {t : Nat} (h : t ∉ g) : putD (hdK L g) (.inl (t : Int)) (.int (entF L t).2.2) = hdK L (g ++ [t]) := by
  unfold putD
  rw [if_neg]
  · unfold hdK
    rw [List.map_append]
    rfl
  · intro z
    obtain ⟨p, mp, hp⟩ := List.any_eq_true.mp z
    obtain ⟨u, mu, rfl⟩ := List.mem_map.mp mp
    have := Sum.inl.inj (show kN u = .inl (t : Int) from by simpa using hp)
    exact h (by rw [show t = u by omega]; exact mu)
theorem hd_drop {L : List FE} {t : Nat} : ∀ {g : List Nat}, g.Nodup → dropD (hdK L g) (.inl (t : Int)) = hdK L (g.erase t)
  | [], _ => rfl
  | u :: g, nd => by
    obtain ⟨n1, n2⟩ := List.nodup_cons.mp nd
    show List.filter _ ((kN u, PyData.int (entF L u).2.2) :: hdK L g) = _
    rw [List.filter_cons]
    by_cases c : u = t
    · subst c
      rw [List.erase_cons_head]
      have : ¬ ((fun kv : Key × PD => decide (kv.1 ≠ .inl (u : Int))) (kN u, PyData.int (entF L u).2.2)) = true := by simp [kN]
      rw [if_neg this]
      refine List.filter_eq_self.mpr fun p mp => ?_
      obtain ⟨v, mv, rfl⟩ := List.mem_map.mp mp
      have : v ≠ u := fun z => n1 (z ▸ mv)
      rw [decide_eq_true_iff]
      intro z
      have := Sum.inl.inj (show kN v = .inl (u : Int) from z)
      omega
    · have h1 : ((fun kv : Key × PD => decide (kv.1 ≠ .inl (t : Int))) (kN u, PyData.int (entF L u).2.2)) = true := by
        rw [decide_eq_true_iff]
        intro z
        have := Sum.inl.inj (show kN u = .inl (t : Int) from z)
        omega
      rw [if_pos h1]
      have ih := hd_drop (L := L) (t := t) n2
      unfold dropD at ih
      rw [ih, List.erase_cons_tail (by simpa using c)]
      rfl
def freeK (L : List FE) (g : List Nat) : List Nat := (idsF L).filter fun t => !decide (t ∈ g)
theorem mem_freeK {L : List FE} {g : List Nat} {t : Nat} : t ∈ freeK L g ↔ t ∈ idsF L ∧ t ∉ g := by
  unfold freeK
  rw [List.mem_filter]
  simp
theorem rooms_spec {s b p : Int} {Q : O → List O → Prop} (hs : 0 ≤ s) (hs2 : s ≤ 1000) (hp : 0 ≤ p) (hp2 : p ≤ 10 ^ 15) (q : Q (.lst ((rngL p s.toNat).map .int)) [.dead, .dead]) : wF (f__law_rooms [.fz (thD (s, b)), .fz (.int p)]) Q := by
  unfold f__law_rooms m__law_rooms
  rw [wF_defN]
  have e := qLrg2_i (a := qVar 1) (b := qOp oAdd (qVar 1) (qOp oIx (qVar 0) (qC (.int 0)))) (ρ := [.fz (thD (s, b)), .fz (.int p)]) (m := p) (n := p + s) (by omega) (by omega) (by omega) (by omega) (by simp) (by simp [thD])
  have e2 : (p + s - p).toNat = s.toNat := by omega
  rw [e2] at e
  simp [e]
  exact q
theorem ent_rm {L P : List FE} {g : List Nat} {m t u : Nat} (h : okF L P g m) (ht : t ∉ g) (hu : u ∈ g) : entF (rmF L t) u = entF L u := by
  obtain ⟨f, mf, rfl⟩ := mem_ids (h.gi u hu)
  have ne : f.1 ≠ t := fun z => ht (z ▸ hu)
  have nd : (idsF (rmF L t)).Nodup := (okF_rm h ht).nd
  rw [ent_self h.nd mf, ent_self nd (List.mem_filter.mpr ⟨mf, by simpa using ne⟩)]
def deedO (n : Nat) (B m : Nat) (s : Int) (Q : O → List O → Prop) : Prop := ∀ a' c' L' P' g' m' D', 0 ≤ a' → 0 ≤ c' → c' ≤ ((n + 3 : Nat) : Int) → Wo L' P' g' m' D' (B + 1920) → m' ≤ m + 1 → Q (.fz (.bool true)) [tpO a' s c', flO L' P' g' m', .dic (thK L'), .dic D', .dic (hdK L' g')]
theorem deed_law {L P : List FE} {g : List Nat} {m B n : Nat} {D : List (Key × PD)} {a s c : Int} {Q : O → List O → Prop} (w : Wo L P g m D B) (hm : m < 79) (hB : B ≤ 10 ^ 6) (ha : 0 ≤ a) (hs : 0 ≤ s) (hs2 : s < 2 ^ 62) (hc : 0 ≤ c) (hc2 : c ≤ n) (hn : n < 2 ^ 38)
    (q : deedO n B m s Q) : wF (f__law_deed [tpO a s c, flO L P g m, .dic (thK L), .dic D, .dic (hdK L g)]) Q := by
  unfold f__law_deed m__law_deed
  have hlen := w.ok.len
  have hdl := w.len
  have hkl : (keysD (thK L)) = L.map fun e => natD e.1 := keysD_mapK
  have hgl : g.length ≤ L.length := by
    have := len_le_sub w.ok.gn w.ok.gi
    simpa [idsF] using this
  have hfl : (freeK L g).length ≤ L.length := by
    have : (idsF L).length = L.length := List.length_map _
    rw [← this]
    exact List.length_filter_le _ _
  have l1 : ∀ r0 x5 x6 x7 x8 : O, lcGo (fName 7) (qB (qOp oNin (qVar 7) (qVar 4))) (qVar 7) [r0, flO L P g m, .dic (thK L), .dic D, .dic (hdK L g), x5, x6, x7, x8] (L.map fun e => natD e.1) = some (gN (freeK L g)) := fun r0 x5 x6 x7 x8 => by
    have e : (gN (freeK L g)) = ((L.filter fun e => !decide (e.1 ∈ g)).map fun e => natD e.1) := by
      unfold freeK idsF gN
      rw [List.filter_map, List.map_map]
      rfl
    rw [e]
    refine lcGo_encC fun x mx => ⟨_, rfl, ?_, by simp [natD]⟩
    have e2 : oNin (.fz (.int (x.1 : Int))) (.dic (hdK L g)) = some (.fz (.bool (!decide (x.1 ∈ g)))) := by
      rw [oNin_dic, lk_hd]
      by_cases h : x.1 ∈ g <;> simp [h]
    simp [natD, e2]
  have hz : L.length ≤ sizeLine := by unfold sizeLine; omega
  rw [wF_defN, wS_seq]
  simp [-List.lookup_eq_none_iff, tpO]
  refine draw_spec (m := 14) ha hs hs2 hc hc2 (by omega) (by decide) (by decide) fun way a1 c1 w1 w2 g1 g2 g3 => ?_
  simp [-List.lookup_eq_none_iff, hkl, l1, hz]
  rw [wS_seq]
  have hthl : (thK L).length = L.length := mapK_len
  have un := fun (x : Str) h1 h2 h3 h4 => lu_no (a := .dic (thK L)) (b := .dic (plK P)) (c := .lst (gN g)) (d := .fz (.int (m : Int))) (x := x) h1 h2 h3 h4
  have ne := oNe_gN0 (x := .fz (.list (gN (freeK L g)))) (g := freeK L g) rfl
  have b1 : ∀ k : Int, (qB (qOp oLt (qVar 5) (qC (.int k)))) [.lst [.int a1, .int s, .int c1], flO L P g m, .dic (thK L), .dic D, .dic (hdK L g), .fz (.int way), .fz (.list (gN (freeK L g))), .dead, .dead] = some (decide (way < k)) := fun k => by simp
  have b2 : (qB (qOp oLt (qCb oLen (qCons (qVar 2) qNil)) (qC (.int 12)))) [.lst [.int a1, .int s, .int c1], flO L P g m, .dic (thK L), .dic D, .dic (hdK L g), .fz (.int way), .fz (.list (gN (freeK L g))), .dead, .dead] = some (decide ((L.length : Int) < 12)) := by
    have e : oLen [.dic (thK L)] = some (.fz (.int (L.length : Int))) := by
      show some (O.fz (.int ((thK L).length : Int))) = _
      rw [hthl]
    simp [e]
  have b3 : (qB (qEqD0 (qVar 2))) [.lst [.int a1, .int s, .int c1], flO L P g m, .dic (thK L), .dic D, .dic (hdK L g), .fz (.int way), .fz (.list (gN (freeK L g))), .dead, .dead] = some (L.length == 0) := by
    simp [hthl]
  have b4 : (qB (qOp oNe (qVar 6) (qFz (qLst qNil)))) [.lst [.int a1, .int s, .int c1], flO L P g m, .dic (thK L), .dic D, .dic (hdK L g), .fz (.int way), .fz (.list (gN (freeK L g))), .dead, .dead] = some (!decide (freeK L g = [])) := by
    simp [ne, sizeLine]
  have b5 : (qB (qNeD0 (qVar 4))) [.lst [.int a1, .int s, .int c1], flO L P g m, .dic (thK L), .dic D, .dic (hdK L g), .fz (.int way), .fz (.list (gN (freeK L g))), .dead, .dead] = some (!(g.length == 0)) := by
    simp [hdK]
  have elh : oLen [.dic (hdK L g)] = some (.fz (.int (g.length : Int))) := by
    show some (O.fz (.int ((hdK L g).length : Int))) = _
    unfold hdK
    rw [List.length_map]
  refine wS_ifB (qOr_and (b1 5) b2 b3) (fun e => ?_) (fun e0 => ?_)
  · have cr := come_law (Q := fun o outs => Q o (outsE [true, true, true, true, true] (backA [some 0, some 1, some 2, some 3] outs [.dead, .dead, .dead, .dead, .dic (hdK L g), .fz (.int way), .fz (.list (gN (freeK L g))), .dead, .dead]))) w hm hB g1 hs hs2 g2 g3 (by omega) fun a' c' L' P' D' h1 h2 h3 h4 h5 h6 => by
      have := q a' c' L' P' g (m + 1) D' h1 h2 (by omega) ⟨h4.ok, h4.oa, h4.sg, h4.s12, by have := h4.len; omega, by omega⟩ (by omega)
      rw [hdK_congr h6] at this
      simp [-List.lookup_eq_none_iff, tpO, flO] at this ⊢
      exact this
    simp only [flO, tpO] at cr ⊢
    simp [-List.lookup_eq_none_iff]
    exact cr
  refine wS_skip ?_
  have hLne : L ≠ [] := fun z => by rw [z] at e0; simp at e0
  rw [wS_seq]
  refine wS_ifB (qAnd_2 (b1 8) b4) (fun e => ?_) (fun _ => ?_)
  · have hne : 0 < (freeK L g).length := by
      simp at e
      exact List.length_pos_iff.mpr e.2
    have e5 := un "leave" (by decide) (by decide) (by decide) (by decide)
    have e6 := un "places" (by decide) (by decide) (by decide) (by decide)
    rw [wS_seq]
    simp [-List.lookup_eq_none_iff]
    refine draw_spec g1 hs hs2 g2 g3 (by omega) (by rw [gN_len]; omega) (by rw [gN_len]; omega) fun r a2 c2 r0 r1 ha2 hc2 hc2' => ?_
    obtain ⟨t, mt, _, pt⟩ := pickN (l := freeK L g) r0 (by rw [gN_len] at r1; exact r1)
    obtain ⟨t1, t2⟩ := mem_freeK.mp mt
    obtain ⟨e, me, rfl⟩ := mem_ids t1
    have h0 := w.pos e me
    have h12 := w.s12 e me
    have hub := w.oa.ub e me
    have et : lk (thK L) (.inl (e.1 : Int)) = some (thD e.2.1) := lk_mapK (f := fun e => thD e.2.1) w.ok.nd me
    have ep : oIx (.fz (.dict ((plK P).map kp))) (.fz (.int (e.1 : Int))) = some (.fz (.int e.2.2)) := oIx_dicF (w.ok.lkP me)
    have ed : dropD (thK L) (.inl (e.1 : Int)) = thK (rmF L e.1) := dropD_mapK
    simp [-List.lookup_eq_none_iff, pt]
    rw [wS_seq]
    simp [-List.lookup_eq_none_iff, keyO, et, ed, flO, e6]
    refine places_spec ?_
    simp [-List.lookup_eq_none_iff, ep]
    refine rooms_spec (s := e.2.1.1) (b := e.2.1.2) (p := e.2.2) (by omega) (by omega) h0.2 (by omega) ?_
    simp [-List.lookup_eq_none_iff]
    have sepe : ∀ f ∈ L, f.1 ≠ e.1 → lieO e.2.2 e.2.1.1 f.2.2 f.2.1.1 = false := fun f mf ne => by
      obtain ⟨i, hi, ei⟩ := List.getElem_of_mem me
      obtain ⟨j, hj, ej⟩ := List.getElem_of_mem mf
      have nij : i ≠ j := fun z => by subst z; rw [ei] at ej; exact ne (by rw [ej])
      rcases Nat.lt_or_gt_of_ne nij with c | c
      · have := List.pairwise_iff_getElem.mp w.oa.sep i j hi hj c
        rw [ei, ej] at this
        exact this
      · have := List.pairwise_iff_getElem.mp w.oa.sep j i hj hi c
        rw [ei, ej] at this
        rw [lieO_comm]
        exact this
    have srm := w.sg.rm w.ok.nd (fun f mf => (w.pos f mf).1) sepe me
    refine wS_forI (fun i ρ => ∃ x8, i ≤ e.2.1.1.toNat ∧ ρ = [tpO a2 s c2, flO L P g m, .dic (thK (rmF L e.1)), .dic (offD D e.2.2 i), .dic (hdK L g), .fz (.int way), .fz (.list (gN (freeK L g))), .fz (.int (e.1 : Int)), x8]) ⟨_, Nat.zero_le _, rfl⟩ ?_ ?_
    · rintro i x ρ ei ⟨x8, hi, rfl⟩
      rw [List.getElem?_map, rng_at] at ei
      by_cases hi2 : i < e.2.1.1.toNat
      · rw [if_pos hi2] at ei
        cases ei
        refine ⟨_, rfl, ?_⟩
        have hr : inE e (e.2.2 + (i : Int)) := ⟨by omega, by omega⟩
        have hk : lk (offD D e.2.2 i) (.inl (e.2.2 + (i : Int))) = some (sgD e.1 (e.2.2 + (i : Int) - e.2.2)) := by
          rw [lk_off, if_neg (by omega)]
          exact w.sg.at_ me hr
        simp [keyO, hk]
        exact ⟨by omega, rfl⟩
      · rw [if_neg hi2] at ei
        cases ei
    · rintro ρ ⟨x8, hi, rfl⟩
      have hL : (List.map PyData.int (rngL e.2.2 e.2.1.1.toNat)).length = e.2.1.1.toNat := by rw [List.length_map, rng_len]
      rw [hL]
      simp [-List.lookup_eq_none_iff, flO, e5]
      refine leave_spec w.ok t1 t2 ?_
      simp [-List.lookup_eq_none_iff]
      have := q a2 c2 (rmF L e.1) (rmF P e.1) g m (offD D e.2.2 e.2.1.1.toNat) ha2 hc2 (by omega) ⟨okF_rm w.ok t2, okA_rm w.oa, srm, fun f mf => w.s12 f (List.mem_filter.mp mf).1, by have := off_le (D := D) (p := e.2.2) (i := e.2.1.1.toNat); omega, by omega⟩ (by omega)
      rw [hdK_congr fun u mu => ent_rm w.ok t2 mu] at this
      exact this
  refine wS_skip ?_
  rw [wS_seq]
  refine wS_ifB (qAnd_2 (b1 10) b4) (fun e => ?_) (fun _ => ?_)
  · have hne : 0 < (freeK L g).length := by
      simp at e
      exact List.length_pos_iff.mpr e.2
    have e5 := un "give" (by decide) (by decide) (by decide) (by decide)
    have e6 := un "places" (by decide) (by decide) (by decide) (by decide)
    rw [wS_seq]
    simp [-List.lookup_eq_none_iff]
    refine draw_spec g1 hs hs2 g2 g3 (by omega) (by rw [gN_len]; omega) (by rw [gN_len]; omega) fun r a2 c2 r0 r1 ha2 hc2 hc2' => ?_
    obtain ⟨t, mt, _, pt⟩ := pickN (l := freeK L g) r0 (by rw [gN_len] at r1; exact r1)
    obtain ⟨t1, t2⟩ := mem_freeK.mp mt
    obtain ⟨e, me, rfl⟩ := mem_ids t1
    have ep : oIx (.fz (.dict ((plK P).map kp))) (.fz (.int (e.1 : Int))) = some (.fz (.int e.2.2)) := oIx_dicF (w.ok.lkP me)
    simp [-List.lookup_eq_none_iff, pt]
    rw [wS_seq]
    have hhl : (hdK L g).length < sizeLine := by unfold hdK sizeLine; rw [List.length_map]; omega
    have hpt := hd_put (L := L) t2
    rw [ent_self w.ok.nd me] at hpt
    simp [-List.lookup_eq_none_iff, keyO, flO, e6]
    refine places_spec ?_
    simp [-List.lookup_eq_none_iff, ep, hhl, hpt, flO, e5]
    refine give_spec w.ok t1 t2 ?_
    simp [-List.lookup_eq_none_iff]
    exact q a2 c2 L P (g ++ [e.1]) m D ha2 hc2 (by omega) ⟨okF_give w.ok t1 t2, w.oa, w.sg, w.s12, by omega, by omega⟩ (by omega)
  refine wS_skip ?_
  rw [wS_seq]
  refine wS_ifB (qAnd_2 (b1 12) b5) (fun e => ?_) (fun _ => ?_)
  · have hne : 0 < g.length := by
      simp at e
      exact List.length_pos_iff.mpr e.2
    have e5 := un "back" (by decide) (by decide) (by decide) (by decide)
    have ekd : oListD [.dic (hdK L g)] = some (.lst (gN g)) := by simp [hd_keys]
    rw [wS_seq]
    simp [-List.lookup_eq_none_iff, elh, ekd, hd_keys]
    refine draw_spec g1 hs hs2 g2 g3 (by omega) (by omega) (by omega) fun r a2 c2 r0 r1 ha2 hc2 hc2' => ?_
    obtain ⟨t, mt, _, pt⟩ := pickN (l := g) r0 r1
    have elk : lk (hdK L g) (.inl (t : Int)) = some (.int (entF L t).2.2) := by rw [lk_hd, if_pos mt]
    have hdr := hd_drop (L := L) (t := t) w.ok.gn
    simp [-List.lookup_eq_none_iff, pt]
    rw [wS_seq]
    simp [-List.lookup_eq_none_iff, keyO, elk, hdr, flO, e5]
    refine back_spec w.ok mt ?_
    simp [-List.lookup_eq_none_iff]
    exact q a2 c2 L P (g.erase t) m D ha2 hc2 (by omega) ⟨okF_back w.ok, w.oa, w.sg, w.s12, by omega, by omega⟩ (by omega)
  refine wS_skip ?_
  have rr := regrown_law (Q := fun o outs => Q o (outsE [true, true, true, true, true] (backA [some 1, some 2, some 3, some 4] outs [.lst [.int a1, .int s, .int c1], .dead, .dead, .dead, .dead, .fz (.int way), .fz (.list (gN (freeK L g))), .dead, .dead]))) w hLne hB fun L' P' D' h1 h2 h3 h4 => by
    have := q a1 c1 L' P' g m D' g1 g2 (by omega) h1 (by omega)
    rw [hdK_congr h4] at this
    simp [-List.lookup_eq_none_iff, tpO, flO] at this ⊢
    exact this
  simp only [flO] at rr ⊢
  simp [-List.lookup_eq_none_iff]
  exact rr
end FM
namespace FM
open PySem PySem.Spec L2 PyProof.Rows
theorem init_spec {Q : O → List O → Prop} (q : Q (.fz .none) [flO [] [] [] 0]) : wF (f_Floor___init__ [.ins 0 []]) Q := by
  unfold f_Floor___init__ m_Floor___init__
  rw [wF_defN]
  simp [wS_seq]
  exact q
def lawV (ns : List Int) (i : Nat) (ρ : List O) : Prop := ∃ x1 x2 x3 x4 x5 x6 x7, ρ = [.fz (.list (ns.map .int)), x1, x2, x3, x4, x5, x6, x7]
def turnV (ns : List Int) (x1 : O) (s : Int) (i : Nat) (ρ : List O) : Prop := ∃ (a c : Int) (L P : List FE) (g : List Nat) (m : Nat) (D : List (Key × PD)) (x7 : O), ρ = [.fz (.list (ns.map .int)), x1, tpO a s c, flO L P g m, .dic (thK L), .dic D, .dic (hdK L g), x7] ∧ Wo L P g m D (1920 * i) ∧ m ≤ i ∧ 0 ≤ a ∧ 0 ≤ c ∧ c ≤ ((1 + 3 * i : Nat) : Int)
theorem plain_law (ns : List Int) (h : ns.length ≤ 63) : ∃ outs, f_law [.fz (.list (ns.map .int))] = .ret (.fz (.bool true)) outs := by
  apply law_of
  unfold f_law m_law
  rw [wF_defN, wS_seq]
  simp [m_law_6]
  obtain ⟨N, hN, hN4, hN0⟩ : ∃ N : Int, N = (if 1 < if (ns.length : Int) < 3 then (ns.length : Int) else 3 then if (ns.length : Int) < 3 then (ns.length : Int) else 3 else 1) ∧ N ≤ 3 ∧ 0 ≤ N := ⟨_, rfl, by split <;> split <;> omega, by split <;> split <;> omega⟩
  rw [← hN]
  have hb : big62 N = true := big62_s (by omega) (by omega)
  simp [hb]
  refine wS_forI (lawV ns) ⟨_, _, _, _, _, _, _, rfl⟩ ?_ ?_
  · rintro i x ρ ex ⟨x1, x2, x3, x4, x5, x6, x7, rfl⟩
    obtain ⟨rfl, hi⟩ := rngD_at ex
    refine ⟨_, rfl, ?_⟩
    rw [wS_seq]
    simp [m_law_1]
    refine tape_spec (by omega) (by omega) fun a s ha hs hs2 => ?_
    simp
    rw [wS_seq]
    simp [m_law_2]
    refine init_spec ?_
    have ef : fzs [flO [] [] [] 0, O.dic [], O.dic [], O.dic []] = none := rfl
    simp [ef, sizeLine, m_law_5, tpO]
    refine draw_spec (m := 33) (n := 0) ha hs hs2 (by decide) (by decide) (by decide) (by decide) (by decide) fun r a1 c1 r0 r1 g1 g2 g3 => ?_
    have hb2 : big62 (8 + r) = true := big62_s (by omega) (by omega)
    simp [-List.lookup_eq_none_iff, hb2]
    refine wS_forI (turnV ns (.fz (.int (i : Int))) s) ⟨a1, c1, [], [], [], 0, [], x7, rfl, ⟨⟨List.nodup_nil, (fun _ m => by cases m), (fun _ m => by cases m), List.nodup_nil, (fun _ m => by cases m), by decide, .refl _⟩, okA_nil, SgOk.nil, (fun _ m => by cases m), by decide, by decide⟩, Nat.le_refl _, g1, g2, by simpa using g3⟩ ?_ ?_
    · rintro j x ρ ej ⟨a2, c2, L, P, g, m, D, x7, rfl, w, hm, k1, k2, k3⟩
      obtain ⟨rfl, hj⟩ := rngD_at ej
      refine ⟨_, rfl, ?_⟩
      rw [wS_seq]
      simp [-List.lookup_eq_none_iff, m_law_3, flO, tpO]
      refine deed_law (n := 1 + 3 * j) w (by omega) (by omega) k1 hs hs2 k2 k3 (by omega) fun a3 c3 L' P' g' m' D' e1 e2 e3 w' em => ?_
      simp [-List.lookup_eq_none_iff, m_law_4, flO, tpO]
      refine lies_spec w' ?_
      simp [-List.lookup_eq_none_iff]
      exact ⟨a3, c3, L', P', g', m', D', _, rfl, ⟨w'.ok, w'.oa, w'.sg, w'.s12, by have := w'.len; omega, by omega⟩, by omega, e1, e2, by omega⟩
    · rintro ρ ⟨a2, c2, L, P, g, m, D, x7, rfl, w, hm, k1, k2, k3⟩
      exact ⟨_, _, _, _, _, _, _, rfl⟩
  · rintro ρ ⟨x1, x2, x3, x4, x5, x6, x7, rfl⟩
    simp
end FM
open PySem PySem.W PySem.Calls PyProof.Rows
theorem PySem.Challenge.cw_frameshare_k67_whole_floor_played_with_r_holds : PySem.Challenge.rw_frameshare_k67_whole_floor_played_with_r.Holds := by
  w_on; o_law
  refine HandSHeadRun.head_any (r := OpenLaw.row PySem.Challenge.rw_frameshare_k67_whole_floor_played_with_r) (q := view (OpenLaw.row PySem.Challenge.rw_frameshare_k67_whole_floor_played_with_r).prog [31]) (H := FM.hhk) (ob := FM.hob) (M := 8000) (loose := FM.hloose) (d := HandSHeadRun.topDef (OpenLaw.row PySem.Challenge.rw_frameshare_k67_whole_floor_played_with_r).prog 31) (kwd := []) FM.hob_eq
    (by kernel_rfl) (fun s => by kernel_rfl) FM.hrun (by kernel_rfl) (by kernel_rfl) (by kernel_rfl) (by rfl) (by first | assumption | decide +kernel) (by decide +kernel) ⟨rfl, rfl, rfl, rfl, rfl, by decide +kernel⟩ ?hw ?hc
  case hw => w_witness2
  case hc =>
    refine FM.walk_ofG (l := PySem.Challenge.rw_frameshare_k67_whole_floor_played_with_r) (n := 63) (k := 9) (x := "_law_script") (CX := fun w => FM.CXg PySem.Challenge.rw_frameshare_k67_whole_floor_played_with_r.prog w) rfl (by decide) (by kernel_rfl) ⟨rfl, by decide, by decide⟩ ?F (fun w H s e s' z => FM.cx_none H s e s' z)
    intro w mg fa h Y G hmg0
    obtain ⟨K, KX, c⟩ := Y
    have hmg : mg ("law" : PySem.Str) = some (.ref fa) := by
      have e : (HandSHeadRun.topDef (OpenLaw.row PySem.Challenge.rw_frameshare_k67_whole_floor_played_with_r).prog 31).name = ("law" : PySem.Str) := by kernel_rfl
      rw [← e]
      exact hmg0
    obtain ⟨fd, hb, hF⟩ := FM.hfacts (P := PySem.Challenge.rw_frameshare_k67_whole_floor_played_with_r.prog) (w := w) KX G hmg c
    exact ⟨K, ⟨K, FM.hcl K⟩, fd, FM.f_law, KX, rfl, hb, FM.plain_law, fun base _ _ => hF base⟩

