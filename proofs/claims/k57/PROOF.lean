import PyProof.Rows.All
import Wide.All
import OpenK.AllK
import Wide.FinOn
import HandS.ForMost
import HandS.ForExc
import HandS.HeadHook1
import HandS.TupAny
import HandS.Deep
import HandS.Style
import HandS.Wide
import KE.DataEq
import KE.DataAny
import KE.DataMinMax
import KE.DataFind
import KE.DataIsa
import KE.Datum
import KE.DatumOrd
import HandS.Defaults
import KE.GoesEnum
import KE.GoesNew
import KE.GoesMore
import KE.GoesRev
import HandS.More
import HandS.Conv
import HandS.Text
import KE.SortData
import PyProof.ReprRoads
import HandS.HeadEnd
import HandS.HeadHook2
import HandS.FStrTup
import HandS.IsInst
import PyProof.IsiBase
import PyProof.IsInstanceH
import PyProof.IsiNone
import KE.KTupSum
import HandS.TupMul
import HandS.SortKw
import HandS.ExcOwn
import HandS.TryOnly
import HandS.ExcIs
import HandS.ExcValue
import KE.KSlice
import HandS.HotCalls
import HandS.TupLe
import KE.SortCalls
import HandS.Dict
import HandS.Rev
import HandS.SetFor
import HandS.Strs
import HandS.Head2
import HandS.Head3
import PySem.Challenge.RW_unbeaten_k57_spreads_judged
set_option Elab.async false
set_option linter.all false
set_option maxRecDepth 100000
set_option maxHeartbeats 0
namespace DL
end DL
namespace U
open PySem PySem.Spec PyProof.Rows L2 DL
def top (i : Nat) : Stmt := PySem.Challenge.pw_unbeaten_k57_spreads_judged.main.body.getD i (.Pass ⟨0, 0, 0, 0⟩)
abbrev s_is_whole : Stmt := top 1
abbrev s_is_within : Stmt := top 2
abbrev s_is_over : Stmt := top 3
abbrev s_does_beat : Stmt := top 4
abbrev s_is_rising : Stmt := top 5
abbrev s_is_row : Stmt := top 7
abbrev s_are_apart : Stmt := top 9
abbrev s_spread_right : Stmt := top 10
abbrev s__law_pool : Stmt := top 12
abbrev s__law_next : Stmt := top 13
abbrev s__law_folded : Stmt := top 14
abbrev s__law_number : Stmt := top 15
abbrev s__law_shaped : Stmt := top 16
abbrev s__law_points : Stmt := top 17
abbrev s__law_over : Stmt := top 18
abbrev s__law_column : Stmt := top 19
abbrev s__law_columns : Stmt := top 20
abbrev s__law_made : Stmt := top 21
abbrev s__law_odd : Stmt := top 22
abbrev s__law_bent : Stmt := top 23
abbrev s__law_rows_bent : Stmt := top 24
abbrev s__law_mids : Stmt := top 25
abbrev s__law_doubled : Stmt := top 26
abbrev s__law_in_place : Stmt := top 27
abbrev s__law_beside : Stmt := top 28
abbrev s__law_crossed : Stmt := top 29
abbrev s__law_twice : Stmt := top 30
abbrev s__law_falls : Stmt := top 31
abbrev s__law_clash : Stmt := top 32
abbrev s__law_is_spread : Stmt := top 33
abbrev s__law_right : Stmt := top 34
abbrev s__law_otherwise : Stmt := top 35
abbrev s_law : Stmt := top 36
abbrev LX : List Str := []
/-! ### the head -/
def D_is_whole : He.DefD := ⟨("is_whole", none), "is_whole", "is_whole", defArgs s_is_whole, defBody s_is_whole, defScope s_is_whole, [], []⟩
def D_is_within : He.DefD := ⟨("is_within", none), "is_within", "is_within", defArgs s_is_within, defBody s_is_within, defScope s_is_within, [], []⟩
def D_is_over : He.DefD := ⟨("is_over", none), "is_over", "is_over", defArgs s_is_over, defBody s_is_over, defScope s_is_over, [], []⟩
def D_does_beat : He.DefD := ⟨("does_beat", none), "does_beat", "does_beat", defArgs s_does_beat, defBody s_does_beat, defScope s_does_beat, [], []⟩
def D_is_rising : He.DefD := ⟨("is_rising", none), "is_rising", "is_rising", defArgs s_is_rising, defBody s_is_rising, defScope s_is_rising, [], []⟩
def D_is_row : He.DefD := ⟨("is_row", none), "is_row", "is_row", defArgs s_is_row, defBody s_is_row, defScope s_is_row, [], []⟩
def D_are_apart : He.DefD := ⟨("are_apart", none), "are_apart", "are_apart", defArgs s_are_apart, defBody s_are_apart, defScope s_are_apart, [], []⟩
def D_spread_right : He.DefD := ⟨("spread_right", none), "spread_right", "spread_right", defArgs s_spread_right, defBody s_spread_right, defScope s_spread_right, [], []⟩
def D__law_pool : He.DefD := ⟨("_law_pool", none), "_law_pool", "_law_pool", defArgs s__law_pool, defBody s__law_pool, defScope s__law_pool, [], []⟩
def D__law_next : He.DefD := ⟨("_law_next", none), "_law_next", "_law_next", defArgs s__law_next, defBody s__law_next, defScope s__law_next, [], []⟩
def D__law_folded : He.DefD := ⟨("_law_folded", none), "_law_folded", "_law_folded", defArgs s__law_folded, defBody s__law_folded, defScope s__law_folded, [], []⟩
def D__law_number : He.DefD := ⟨("_law_number", none), "_law_number", "_law_number", defArgs s__law_number, defBody s__law_number, defScope s__law_number, [], []⟩
def D__law_shaped : He.DefD := ⟨("_law_shaped", none), "_law_shaped", "_law_shaped", defArgs s__law_shaped, defBody s__law_shaped, defScope s__law_shaped, [], []⟩
def D__law_points : He.DefD := ⟨("_law_points", none), "_law_points", "_law_points", defArgs s__law_points, defBody s__law_points, defScope s__law_points, [], []⟩
def D__law_over : He.DefD := ⟨("_law_over", none), "_law_over", "_law_over", defArgs s__law_over, defBody s__law_over, defScope s__law_over, [], []⟩
def D__law_column : He.DefD := ⟨("_law_column", none), "_law_column", "_law_column", defArgs s__law_column, defBody s__law_column, defScope s__law_column, [], []⟩
def D__law_columns : He.DefD := ⟨("_law_columns", none), "_law_columns", "_law_columns", defArgs s__law_columns, defBody s__law_columns, defScope s__law_columns, [], []⟩
def D__law_made : He.DefD := ⟨("_law_made", none), "_law_made", "_law_made", defArgs s__law_made, defBody s__law_made, defScope s__law_made, [], []⟩
def D__law_odd : He.DefD := ⟨("_law_odd", none), "_law_odd", "_law_odd", defArgs s__law_odd, defBody s__law_odd, defScope s__law_odd, [], []⟩
def D__law_bent : He.DefD := ⟨("_law_bent", none), "_law_bent", "_law_bent", defArgs s__law_bent, defBody s__law_bent, defScope s__law_bent, [], []⟩
def D__law_rows_bent : He.DefD := ⟨("_law_rows_bent", none), "_law_rows_bent", "_law_rows_bent", defArgs s__law_rows_bent, defBody s__law_rows_bent, defScope s__law_rows_bent, [], []⟩
def D__law_mids : He.DefD := ⟨("_law_mids", none), "_law_mids", "_law_mids", defArgs s__law_mids, defBody s__law_mids, defScope s__law_mids, [], []⟩
def D__law_doubled : He.DefD := ⟨("_law_doubled", none), "_law_doubled", "_law_doubled", defArgs s__law_doubled, defBody s__law_doubled, defScope s__law_doubled, [], []⟩
def D__law_in_place : He.DefD := ⟨("_law_in_place", none), "_law_in_place", "_law_in_place", defArgs s__law_in_place, defBody s__law_in_place, defScope s__law_in_place, [], []⟩
def D__law_beside : He.DefD := ⟨("_law_beside", none), "_law_beside", "_law_beside", defArgs s__law_beside, defBody s__law_beside, defScope s__law_beside, [], []⟩
def D__law_crossed : He.DefD := ⟨("_law_crossed", none), "_law_crossed", "_law_crossed", defArgs s__law_crossed, defBody s__law_crossed, defScope s__law_crossed, [], []⟩
def D__law_twice : He.DefD := ⟨("_law_twice", none), "_law_twice", "_law_twice", defArgs s__law_twice, defBody s__law_twice, defScope s__law_twice, [], []⟩
def D__law_falls : He.DefD := ⟨("_law_falls", none), "_law_falls", "_law_falls", defArgs s__law_falls, defBody s__law_falls, defScope s__law_falls, [], []⟩
def D__law_clash : He.DefD := ⟨("_law_clash", none), "_law_clash", "_law_clash", defArgs s__law_clash, defBody s__law_clash, defScope s__law_clash, [], []⟩
def D__law_is_spread : He.DefD := ⟨("_law_is_spread", none), "_law_is_spread", "_law_is_spread", defArgs s__law_is_spread, defBody s__law_is_spread, defScope s__law_is_spread, [], []⟩
def D__law_right : He.DefD := ⟨("_law_right", none), "_law_right", "_law_right", defArgs s__law_right, defBody s__law_right, defScope s__law_right, [], []⟩
def D__law_otherwise : He.DefD := ⟨("_law_otherwise", none), "_law_otherwise", "_law_otherwise", defArgs s__law_otherwise, defBody s__law_otherwise, defScope s__law_otherwise, [], []⟩
def D_law : He.DefD := ⟨("law", none), "law", "law", defArgs s_law, defBody s_law, defScope s_law, [], []⟩
def fnL : List He.DefD := [D_is_whole, D_is_within, D_is_over, D_does_beat, D_is_rising, D_is_row, D_are_apart, D_spread_right, D__law_pool, D__law_next, D__law_folded, D__law_number, D__law_shaped, D__law_points, D__law_over, D__law_column, D__law_columns, D__law_made, D__law_odd, D__law_bent, D__law_rows_bent, D__law_mids, D__law_doubled, D__law_in_place, D__law_beside, D__law_crossed, D__law_twice, D__law_falls, D__law_clash, D__law_is_spread, D__law_right, D__law_otherwise, D_law]
def faL : List He.Fa := [.glo "is_whole", .glo "is_within", .glo "is_over", .glo "does_beat", .glo "is_rising", .glo "is_row", .glo "are_apart", .glo "spread_right", .glo "_law_pool", .glo "_law_next", .glo "_law_folded", .glo "_law_number", .glo "_law_shaped", .glo "_law_points", .glo "_law_over", .glo "_law_column", .glo "_law_columns", .glo "_law_made", .glo "_law_odd", .glo "_law_bent", .glo "_law_rows_bent", .glo "_law_mids", .glo "_law_doubled", .glo "_law_in_place", .glo "_law_beside", .glo "_law_crossed", .glo "_law_twice", .glo "_law_falls", .glo "_law_clash", .glo "_law_is_spread", .glo "_law_right", .glo "_law_otherwise", .glo "law", .free "isinstance", .free "int", .free "bool", .free "all", .free "zip", .free "len", .free "any", .free "sorted", .free "list", .free "range", .free "max", .free "min", .free "tuple", .free "enumerate", .free "set"]
abbrev RR : PySem.W.OpenRow := PySem.W.OpenLaw.row PySem.Challenge.rw_unbeaten_k57_spreads_judged
abbrev hkL : PySem.W.Hook := He.hookD 4 faL fnL
def obL (s : PySem.W.SharedT) : He.AlD := He.obsDG 4 faL fnL (HandSHeadRun.getT s)
theorem obL_eq (s : PySem.W.SharedT) : obL s = hkL.obs s.abs := He.obsDG_eq (HandSHeadRun.getT_eq s)
def looseL : List Str := (["is_whole", "is_within", "is_over", "does_beat", "is_rising", "is_row", "are_apart", "spread_right", "_law_pool", "_law_next", "_law_folded", "_law_number", "_law_shaped", "_law_points", "_law_over", "_law_column"] : List Str) ++ (["_law_columns", "_law_made", "_law_odd", "_law_bent", "_law_rows_bent", "_law_mids", "_law_doubled", "_law_in_place", "_law_beside", "_law_crossed", "_law_twice", "_law_falls", "_law_clash", "_law_is_spread", "_law_right", "_law_otherwise"] : List Str)
theorem runL (w : World) : HandSHeadRun.RunEq RR (PySem.W.view RR.prog [36]) hkL obL 4000 looseL w := by
  intro os
  kernel_rfl
end U

/-! The data layer, part 1: frozen data, owned lists and dicts, the relation of a data state to slots and heap. -/
namespace DL
open PySem PySem.Spec PyProof.Rows L2

/-- the def of the name x -/
def FnK (K : PySem.W.Frag) (x : Str) : Prop := ∃ o, K.lookup (He.ga K x) = some o ∧ o.cls = .type "function"
/-! what a value reads as, an empty dict, too; a def stands as a dict of its name -/
mutual
inductive Dq (K : PySem.W.Frag) (H : Hp) : V → PyData → Prop
  | non : Dq K H .non .none
  | bl (b : Bool) : Dq K H (.bl b) (.bool b)
  | int (i : Int) : Dq K H (.int i) (.int i)
  | str (x : Str) : Dq K H (.str x) (.str x)
  | lst {a : Addr} {xs : List V} {ds : List PyData} : SqL K H a xs → DqAll K H xs ds → Dq K H (.ref a) (.list ds)
  | tup {a : Addr} {xs : List V} {ds : List PyData} : SqT K H a xs → DqAll K H xs ds → Dq K H (.ref a) (.tuple ds)
  | dct {a : Addr} : H a = some (.dK []) → Dq K H (.ref a) (.dict [])
  | fnv {x : Str} : FnK K x → Dq K H (.ref (He.ga K x)) (.dict [(.str x, .none)])
  | xtp {a : Addr} {o : Obj} {xs : List V} {ds : List PyData} : H a = some (.frz o (.tup xs)) → o.dict = none → DqAll K H xs ds → Dq K H (.ref a) (.dict [(.none, .tuple ds)])
inductive DqAll (K : PySem.W.Frag) (H : Hp) : List V → List PyData → Prop
  | nil : DqAll K H [] []
  | cons {v : V} {vs : List V} {d : PyData} {ds : List PyData} : Dq K H v d → DqAll K H vs ds → DqAll K H (v :: vs) (d :: ds)
end
/-! no def within -/
mutual
def nd : PyData → Bool
  | .dict kvs => kvs.isEmpty
  | .list ds => ndA ds
  | .tuple ds => ndA ds
  | _ => true
def ndA : List PyData → Bool
  | [] => true
  | d :: ds => nd d && ndA ds
end
theorem ndA_of : ∀ {ds : List PyData}, (∀ d ∈ ds, nd d = true) → ndA ds = true
  | [], _ => rfl
  | d :: ds, h => by rw [ndA, h d List.mem_cons_self, ndA_of fun x hx => h x (List.mem_cons_of_mem _ hx)]; rfl
section
variable {X : Cx} {pins : List (Addr × Obj)} {σ : L2.St} {H : Hp} {s : Shared}
theorem dct_ob (I : Inv X pins σ H s) {a : Addr} (h : H a = some (.dK [])) : Reads s.heap (.ref a) (.dict []) [a] ∧ a ≠ sysModules := by
  obtain ⟨_, hs, vs, kv, o, es, ep, ho, hx, hd, _, pr, _⟩ := I.hok a _ h
  have hv : vs = [] := by cases kv; rfl
  subst hv
  have he : es.toList = [] := by
    cases e : es.toList with
    | nil => rfl
    | cons x l => rw [e] at pr; cases pr
  exact ⟨Reads.dict (as := []) (bs := []) ho hx.1 hd (by rw [he]; exact .nil) (by rw [he]; exact .nil), fun z => by rw [z] at hs; simp at hs⟩
mutual
theorem Dq.reads (I : Inv X pins σ H s) : ∀ (d : PyData) (v : V) (u : Value), nd d = true → Dq X.K H v d → RelV v u → ∃ as, Reads s.heap u d as
  | .none, _, _, _, .non, r => by cases r; exact ⟨_, .none⟩
  | .bool b, _, _, _, .bl _, r => by cases r; exact ⟨_, .bool b⟩
  | .int i, _, _, _, .int _, r => by obtain ⟨t, rfl⟩ := r; exact ⟨_, .int i t⟩
  | .str x, _, _, _, .str _, r => by obtain ⟨t, rfl⟩ := r; exact ⟨_, .str x t⟩
  | .list ds, _, _, n, .lst hs ha, r => by
    cases r
    rw [nd] at n
    obtain ⟨its, rv, ⟨o, _, ho, hc, _, hd⟩, _⟩ := I.list hs
    obtain ⟨as, hr⟩ := Dq.readsAll I ds _ its n ha rv
    exact ⟨_, .list ho hc hd hr⟩
  | .tuple ds, _, _, n, .tup hs ha, r => by
    cases r
    rw [nd] at n
    obtain ⟨its, rv, ⟨o, ho, hc, _, hd⟩, _⟩ := I.tuple hs
    obtain ⟨as, hr⟩ := Dq.readsAll I ds _ its n ha rv
    exact ⟨_, .tuple ho hc hd hr⟩
  | .dict _, _, _, _, .dct h, r => by cases r; exact ⟨_, (dct_ob I h).1⟩
  | .dict _, _, _, n, .fnv h, r => by simp [nd] at n
  | .dict _, _, _, n, .xtp _ _ _, r => by simp [nd] at n
theorem Dq.readsAll (I : Inv X pins σ H s) : ∀ (ds : List PyData) (vs : List V) (us : List Value), ndA ds = true → DqAll X.K H vs ds → Vals vs us → ∃ as, ReadsAll s.heap us ds as
  | [], _, _, _, .nil, r => by cases r; exact ⟨_, .nil⟩
  | d :: ds, _, _, n, .cons h1 h2, r => by
    rw [ndA, Bool.and_eq_true] at n
    cases r with
    | cons r1 r2 =>
      obtain ⟨as, q1⟩ := Dq.reads I d _ _ n.1 h1 r1
      obtain ⟨bs, q2⟩ := Dq.readsAll I ds _ _ n.2 h2 r2
      exact ⟨_, .cons q1 q2⟩
end
end
mutual
inductive Rp (K : PySem.W.Frag) (F : Addr → Prop) (H : Hp) : V → PyData → Prop
  | non : Rp K F H .non .none
  | bl (b : Bool) : Rp K F H (.bl b) (.bool b)
  | int (i : Int) : Rp K F H (.int i) (.int i)
  | str (x : Str) : Rp K F H (.str x) (.str x)
  | lst {a : Addr} {xs : List V} {ds : List PyData} : F a → H a = some (.lst xs) → RpA K F H xs ds → Rp K F H (.ref a) (.list ds)
  | tup {a : Addr} {xs : List V} {ds : List PyData} : SqT K H a xs → RpA K F H xs ds → Rp K F H (.ref a) (.tuple ds)
  | dct {a : Addr} : F a → H a = some (.dK []) → Rp K F H (.ref a) (.dict [])
  | fnv {x : Str} : FnK K x → Rp K F H (.ref (He.ga K x)) (.dict [(.str x, .none)])
  | xtp {a : Addr} {o : Obj} {xs : List V} {ds : List PyData} : H a = some (.frz o (.tup xs)) → o.dict = none → RpA K F H xs ds → Rp K F H (.ref a) (.dict [(.none, .tuple ds)])
inductive RpA (K : PySem.W.Frag) (F : Addr → Prop) (H : Hp) : List V → List PyData → Prop
  | nil : RpA K F H [] []
  | cons {v : V} {vs : List V} {d : PyData} {ds : List PyData} : Rp K F H v d → RpA K F H vs ds → RpA K F H (v :: vs) (d :: ds)
end

def Stl : HO → Prop
  | .tup _ => True
  | .frz _ _ => True
  | .ext _ => True
  | _ => False
abbrev Kp (F : Addr → Prop) (H H' : Hp) : Prop := ∀ a o, H a = some o → F a ∨ Stl o → H' a = some o

section
variable {K : PySem.W.Frag} {F F' : Addr → Prop} {H H' : Hp}
theorem sqT_keep {a : Addr} {xs : List V} (hH : Kp F H H') (h : SqT K H a xs) : SqT K H' a xs := by
  rcases h with (h | ⟨o, h⟩) | h
  · exact .inl (.inl (hH _ _ h (.inr trivial)))
  · exact .inl (.inr ⟨o, hH _ _ h (.inr trivial)⟩)
  · exact .inr h
mutual
theorem Rp.keep (hF : ∀ a, F a → F' a) (hH : Kp F H H') : ∀ (d : PyData) (v : V), Rp K F H v d → Rp K F' H' v d
  | .none, _, .non => .non
  | .bool _, _, .bl b => .bl b
  | .int _, _, .int i => .int i
  | .str _, _, .str x => .str x
  | .list ds, _, .lst f h r => .lst (hF _ f) (hH _ _ h (.inl f)) (RpA.keep hF hH ds _ r)
  | .tuple ds, _, .tup h r => .tup (sqT_keep hH h) (RpA.keep hF hH ds _ r)
  | .dict _, _, .dct f h => .dct (hF _ f) (hH _ _ h (.inl f))
  | .dict _, _, .fnv h => .fnv h
  | .dict _, _, .xtp h e r => .xtp (hH _ _ h (.inr trivial)) e (RpA.keep hF hH _ _ r)
theorem RpA.keep (hF : ∀ a, F a → F' a) (hH : Kp F H H') : ∀ (ds : List PyData) (vs : List V), RpA K F H vs ds → RpA K F' H' vs ds
  | [], _, .nil => .nil
  | d :: ds, _, .cons r q => .cons (Rp.keep hF hH d _ r) (RpA.keep hF hH ds _ q)
end
mutual
theorem Rp.dp : ∀ (d : PyData) (v : V), Rp K F H v d → Dq K H v d
  | .none, _, .non => .non
  | .bool _, _, .bl b => .bl b
  | .int _, _, .int i => .int i
  | .str _, _, .str x => .str x
  | .list ds, _, .lst f h r => .lst (SqL.of h) (RpA.dp ds _ r)
  | .tuple ds, _, .tup h r => .tup h (RpA.dp ds _ r)
  | .dict _, _, .dct _ h => .dct h
  | .dict _, _, .fnv h => .fnv h
  | .dict _, _, .xtp h e r => .xtp h e (RpA.dp _ _ r)
theorem RpA.dp : ∀ (ds : List PyData) (vs : List V), RpA K F H vs ds → DqAll K H vs ds
  | [], _, .nil => .nil
  | d :: ds, _, .cons r q => .cons (Rp.dp d _ r) (RpA.dp ds _ q)
end
/-! an exact tuple told as a plain one -/
mutual
def strip : PyData → PyData
  | .dict [(.none, .tuple ds)] => .tuple (stripA ds)
  | .tuple ds => .tuple (stripA ds)
  | .list ds => .list (stripA ds)
  | d => d
def stripA : List PyData → List PyData
  | [] => []
  | d :: ds => strip d :: stripA ds
end
mutual
theorem Rp.strip : ∀ (d : PyData) (v : V), Rp K F H v d → Rp K F H v (DL.strip d)
  | .none, _, .non => .non
  | .bool _, _, .bl b => .bl b
  | .int _, _, .int i => .int i
  | .str _, _, .str x => .str x
  | .list ds, _, .lst f h r => .lst f h (RpA.strip ds _ r)
  | .tuple ds, _, .tup h r => .tup h (RpA.strip ds _ r)
  | .dict _, _, .dct f h => .dct f h
  | .dict _, _, .fnv h => .fnv h
  | .dict _, _, .xtp h e r => .tup (.inl (.inr ⟨_, h⟩)) (RpA.strip _ _ r)
theorem RpA.strip : ∀ (ds : List PyData) (vs : List V), RpA K F H vs ds → RpA K F H vs (stripA ds)
  | [], _, .nil => .nil
  | d :: ds, _, .cons r q => .cons (Rp.strip d _ r) (RpA.strip ds _ q)
end
theorem RpA.length : ∀ {vs : List V} {ds : List PyData}, RpA K F H vs ds → vs.length = ds.length
  | _, _, .nil => rfl
  | _, _, .cons _ q => congrArg (· + 1) (RpA.length q)
theorem RpA.get : ∀ {vs : List V} {ds : List PyData} {i : Nat} {d : PyData}, RpA K F H vs ds → ds[i]? = some d → ∃ v, vs[i]? = some v ∧ Rp K F H v d
  | _, _, _, _, .nil, e => by simp at e
  | _, _, 0, _, .cons r _, e => by simp at e; subst e; exact ⟨_, rfl, r⟩
  | _, _, i + 1, x, .cons _ t, e => by
    obtain ⟨u, h1, h2⟩ := RpA.get (i := i) (d := x) t (by simpa using e)
    exact ⟨u, by simpa using h1, h2⟩
theorem RpA.append : ∀ {vs ws : List V} {ds es : List PyData}, RpA K F H vs ds → RpA K F H ws es → RpA K F H (vs ++ ws) (ds ++ es)
  | _, _, _, _, .nil, s => s
  | _, _, _, _, .cons r t, s => .cons r (RpA.append t s)
theorem RpA.one {v : V} {d : PyData} (r : Rp K F H v d) : RpA K F H [v] [d] := .cons r .nil
theorem RpA.set {v : V} {d : PyData} (r : Rp K F H v d) : ∀ {vs : List V} {ds : List PyData} (i : Nat), RpA K F H vs ds → RpA K F H (vs.set i v) (ds.set i d)
  | _, _, _, .nil => .nil
  | _, _, 0, .cons _ t => .cons r t
  | _, _, i + 1, .cons q t => .cons q (RpA.set r i t)
theorem RpA.take : ∀ {vs : List V} {ds : List PyData} (n : Nat), RpA K F H vs ds → RpA K F H (vs.take n) (ds.take n)
  | _, _, 0, _ => .nil
  | _, _, _ + 1, .nil => .nil
  | _, _, n + 1, .cons r t => .cons r (RpA.take n t)
theorem RpA.drop : ∀ {vs : List V} {ds : List PyData} (n : Nat), RpA K F H vs ds → RpA K F H (vs.drop n) (ds.drop n)
  | _, _, 0, r => r
  | _, _, _ + 1, .nil => .nil
  | _, _, n + 1, .cons r t => RpA.drop n t
theorem RpA.reverse : ∀ {vs : List V} {ds : List PyData}, RpA K F H vs ds → RpA K F H vs.reverse ds.reverse
  | _, _, .nil => .nil
  | _, _, .cons r t => by
    rw [List.reverse_cons, List.reverse_cons]
    exact RpA.append (RpA.reverse t) (.one r)
theorem RpA.ints : ∀ {ns : List Int} {vs : List V}, RpA K F H vs (ns.map PyData.int) → vs = ns.map V.int
  | [], _, .nil => rfl
  | n :: ns, _, .cons r t => by
    cases r
    rw [List.map_cons, RpA.ints t]
theorem RpA.ofInts : ∀ (ns : List Int), RpA K F H (ns.map V.int) (ns.map PyData.int)
  | [] => .nil
  | n :: ns => .cons (.int n) (RpA.ofInts ns)
theorem RpA.bools : ∀ {ns : List Bool} {vs : List V}, RpA K F H vs (ns.map PyData.bool) → vs = ns.map V.bl
  | [], _, .nil => rfl
  | n :: ns, _, .cons r t => by
    cases r
    rw [List.map_cons, RpA.bools t]
end

/-- an exception object, told by its class and its fields' dict -/
def ExT (cls : Value) (d : Option Addr) (a : Addr) : HO := .ext fun h => ∃ (oe : Obj) (vs : Array Value), h.get? a = some oe ∧ Zc cls d oe ∧ oe.data = .fields vs
/-! ### values and their owners -/
/-- further owned things: a list whose first thing is an owned list; a dict by tuples of keys -/
inductive Un where
  | nst (xs ds : List PyData)
  | dt (kvs : List (List Key × PyData))
inductive Vl where
  | fr (d : PyData)
  | ow (ds : List PyData)
  | dk (kvs : List (Key × PyData))
  | cst (v : V)
  | scr (ns : List Int)
  | exn (x : Str)
  | un (u : Un)
  | bor (i : Nat)
  | gone
/-- a slot's number, or a temp's -/
abbrev Ow := Sum Nat Nat
/-- the script: a frozen object, or one of the module's own -/
def ScrAt (K : PySem.W.Frag) (H : Hp) (a : Addr) (ns : List Int) : Prop := (∃ o, H a = some (.frz o (.lst (ns.map V.int)))) ∨
  ∃ (o : Obj) (its : Array Value) (n : Nat), K.lookup a = some o ∧ o.cls = .type "list" ∧ o.dict = none ∧ o.data = .seq its n ∧ its.size ≤ sizeLine ∧ Vals (ns.map V.int) its.toList
theorem ScrAt.sq {K : PySem.W.Frag} {H : Hp} {a : Addr} {ns : List Int} (h : ScrAt K H a ns) : SqL K H a (ns.map V.int) := h.elim (fun z => .inl (.inr z)) .inr
theorem ScrAt.keep {K : PySem.W.Frag} {F : Addr → Prop} {H H' : Hp} {a : Addr} {ns : List Int} (hH : Kp F H H') (h : ScrAt K H a ns) : ScrAt K H' a ns := h.elim (fun ⟨o, z⟩ => .inl ⟨o, hH _ _ z (.inr trivial)⟩) .inr
def RpK (K : PySem.W.Frag) (F : Addr → Prop) (H : Hp) : List (Key × V) → List (Key × PyData) → Prop := Paired fun p q => p.1 = q.1 ∧ Rp K F H p.2 q.2
def RpT (K : PySem.W.Frag) (F : Addr → Prop) (H : Hp) : List (List Key × V) → List (List Key × PyData) → Prop := Paired fun p q => p.1 = q.1 ∧ Rp K F H p.2 q.2
def UR (K : PySem.W.Frag) (F : Addr → Prop) (O : Addr → Option Ow) (H : Hp) (w : Ow) (v : V) : Un → Prop
  | .nst xs ds => ∃ a b vs ws, v = .ref a ∧ a ≠ b ∧ O a = some w ∧ H a = some (.lst (.ref b :: vs)) ∧ O b = some w ∧ H b = some (.lst ws) ∧ RpA K F H ws xs ∧ RpA K F H vs ds
  | .dt kvs => ∃ a vs, v = .ref a ∧ O a = some w ∧ H a = some (.dT vs) ∧ RpT K F H vs kvs
def VR (K : PySem.W.Frag) (F : Addr → Prop) (O : Addr → Option Ow) (H : Hp) (w : Ow) (v : V) : Vl → Prop
  | .fr d => Rp K F H v d
  | .ow ds => ∃ a vs, v = .ref a ∧ O a = some w ∧ H a = some (.lst vs) ∧ RpA K F H vs ds
  | .dk kvs => ∃ a vs, v = .ref a ∧ O a = some w ∧ H a = some (.dK vs) ∧ RpK K F H vs kvs
  | .cst c => v = c
  | .scr ns => ∃ a, v = .ref a ∧ ScrAt K H a ns
  | .exn x => ∃ a, v = .ref a ∧ H a = some (ExT (.ref (He.ga K x)) none a)
  | .un u => UR K F O H w v u
  | .bor _ => False
  | .gone => True
section
variable {K : PySem.W.Frag} {F F' : Addr → Prop} {O O' : Addr → Option Ow} {H H' : Hp} {w w' : Ow} {v : V}
theorem VR.keep (hF : ∀ a, F a → F' a) (hH : Kp F H H') (hO : ∀ a, O a = some w → O' a = some w') (hW : ∀ a o, O a = some w → H a = some o → H' a = some o) : ∀ {d : Vl}, VR K F O H w v d → VR K F' O' H' w' v d
  | .fr d, h => Rp.keep hF hH d v h
  | .ow ds, ⟨a, vs, e, o, h, r⟩ => ⟨a, vs, e, hO a o, hW a _ o h, r.keep hF hH⟩
  | .dk kvs, ⟨a, vs, e, o, h, r⟩ => ⟨a, vs, e, hO a o, hW a _ o h, Paired.mapP r fun p q z => ⟨z.1, Rp.keep hF hH _ _ z.2⟩⟩
  | .cst c, h => h
  | .scr ns, ⟨a, e, h⟩ => ⟨a, e, h.keep hH⟩
  | .exn x, ⟨a, e, h⟩ => ⟨a, e, hH _ _ h (.inr trivial)⟩
  | .un (.nst xs ds), ⟨a, b, vs, ws, e, n, o1, h1, o2, h2, r1, r2⟩ => ⟨a, b, vs, ws, e, n, hO a o1, hW a _ o1 h1, hO b o2, hW b _ o2 h2, r1.keep hF hH, r2.keep hF hH⟩
  | .un (.dt kvs), ⟨a, vs, e, o, h, r⟩ => ⟨a, vs, e, hO a o, hW a _ o h, Paired.mapP r fun p q z => ⟨z.1, Rp.keep hF hH _ _ z.2⟩⟩
  | .bor _, h => h
  | .gone, h => h
end

def TmR (K : PySem.W.Frag) (F : Addr → Prop) (O : Addr → Option Ow) (H : Hp) (σ : L2.St) : List Vl → List V → Prop
  | [], [] => True
  | d :: tm, v :: tv => ((∃ i, d = .bor i ∧ σ[i]? = some (some v)) ∨ VR K F O H (.inr tm.length) v d) ∧ TmR K F O H σ tm tv
  | _, _ => False
/-- what stood at the entry; the addresses that the def may change; those that are frozen -/
structure Ba where
  H0 : Hp
  A0 : Addr → Prop
  F0 : Addr → Prop
  L0 : List (Nat × V)
structure RelX (K : PySem.W.Frag) (B : Ba) (lv : List (Nat × V)) (st tm : List Vl) (σ : L2.St) (tv : List V) (H : Hp) (F : Addr → Prop) (O : Addr → Option Ow) : Prop where
  len : st.length = σ.length
  sl : ∀ i d, st[i]? = some d → d = .gone ∨ ∃ v, σ[i]? = some (some v) ∧ VR K F O H (.inl i) v d
  tp : TmR K F O H σ tm tv
  fo : ∀ a, F a → O a = none
  oh : ∀ a w, O a = some w → ∃ o, H a = some o ∧ ¬ Stl o
  fh : ∀ a, F a → H a ≠ none
  fr : ∀ a o, B.H0 a = some o → ¬ B.A0 a → H a = some o
  mi : ∀ a w, O a = some w → B.A0 a ∨ B.H0 a = none
  f0 : ∀ a, B.F0 a → F a
  f1 : ∀ a, F a → B.F0 a ∨ B.H0 a = none ∨ B.A0 a
  lk : ∀ p ∈ lv, σ[p.1]? = some (some p.2)
def Rel (K : PySem.W.Frag) (B : Ba) (lv : List (Nat × V)) (st tm : List Vl) (σ : L2.St) (tv : List V) (H : Hp) : Prop := ∃ F O, RelX K B lv st tm σ tv H F O

section
variable {K : PySem.W.Frag} {B : Ba} {lv : List (Nat × V)} {st tm : List Vl} {σ : L2.St} {tv : List V} {H H' : Hp} {F F' : Addr → Prop} {O O' : Addr → Option Ow} {v : V} {d : Vl} {a p : Addr}
theorem TmR.keep (hF : ∀ a, F a → F' a) (hH : Kp F H H') (σ' : L2.St) : ∀ {tm : List Vl} {tv : List V}, (hO : ∀ a n, n < tm.length → O a = some (.inr n) → O' a = some (.inr n)) → (hW : ∀ a o n, n < tm.length → O a = some (.inr n) → H a = some o → H' a = some o) →
    (hb : ∀ i v, Vl.bor i ∈ tm → σ[i]? = some (some v) → σ'[i]? = some (some v)) → TmR K F O H σ tm tv → TmR K F' O' H' σ' tm tv
  | [], [], _, _, _, _ => trivial
  | d :: tm, v :: tv, hO, hW, hb, ⟨h, r⟩ => by
    refine ⟨?_, TmR.keep hF hH σ' (fun a n hn => hO a n (Nat.lt_succ_of_lt hn)) (fun a o n hn => hW a o n (Nat.lt_succ_of_lt hn)) (fun i v hi => hb i v (List.mem_cons_of_mem _ hi)) r⟩
    rcases h with ⟨i, e, h⟩ | h
    · exact .inl ⟨i, e, hb i v (by rw [e]; exact List.mem_cons_self) h⟩
    · exact .inr (VR.keep hF hH (fun a => hO a _ (Nat.lt_succ_self _)) (fun a o => hW a o _ (Nat.lt_succ_self _)) h)
  | [], _ :: _, _, _, _, h => h.elim
  | _ :: _, [], _, _, _, h => h.elim
/-- all that was there stays; owners stay -/
theorem RelX.grow (R : RelX K B lv st tm σ tv H F O) (hH : ∀ a o, H a = some o → H' a = some o) (hO : ∀ a w, O a = some w → O' a = some w)
    (fo : ∀ a, F a → O' a = none) (oh : ∀ a w, O' a = some w → ∃ o, H' a = some o ∧ ¬ Stl o) (mi : ∀ a w, O' a = some w → B.A0 a ∨ B.H0 a = none) : RelX K B lv st tm σ tv H' F O' := by
  refine ⟨R.len, fun i d e => ?_, R.tp.keep (fun _ h => h) (fun a o h _ => hH a o h) σ (fun a n _ => hO a _) (fun a o n _ _ => hH a o) (fun _ _ _ h => h), fo, oh, fun a f => ?_, fun a o h n => hH a o (R.fr a o h n), mi, R.f0, R.f1, R.lk⟩
  · rcases R.sl i d e with h | ⟨v, h1, h2⟩
    · exact .inl h
    · exact .inr ⟨v, h1, h2.keep (fun _ h => h) (fun a o h _ => hH a o h) (fun a => hO a _) (fun a o _ => hH a o)⟩
  · intro z
    cases e : H a with
    | none => exact R.fh a f e
    | some o => rw [hH a o e] at z; cases z
theorem RelX.push (R : RelX K B lv st tm σ tv H F O) (h : VR K F O H (.inr tm.length) v d) : RelX K B lv st (d :: tm) σ (v :: tv) H F O :=
  ⟨R.len, R.sl, ⟨.inr h, R.tp⟩, R.fo, R.oh, R.fh, R.fr, R.mi, R.f0, R.f1, R.lk⟩
theorem RelX.pop (R : RelX K B lv st (d :: tm) σ (v :: tv) H F O) : RelX K B lv st tm σ tv H F O :=
  ⟨R.len, R.sl, R.tp.2, R.fo, R.oh, R.fh, R.fr, R.mi, R.f0, R.f1, R.lk⟩
theorem Rel.pop (R : Rel K B lv st (d :: tm) σ (v :: tv) H) : Rel K B lv st tm σ tv H := let ⟨F, O, R⟩ := R; ⟨F, O, R.pop⟩
theorem Rel.popAll : ∀ {ds : List Vl} {vs : List V}, ds.length = vs.length → Rel K B lv st (ds ++ tm) σ (vs ++ tv) H → Rel K B lv st tm σ tv H
  | [], [], _, R => R
  | _ :: ds, _ :: vs, e, R => Rel.popAll (Nat.succ.inj e) (Rel.pop R)
  | [], _ :: _, e, _ => by cases e
  | _ :: _, [], e, _ => by cases e
theorem Rel.push_fr {x : PyData} (R : Rel K B lv st tm σ tv H) (h : ∀ F, Rp K F H v x) : Rel K B lv st (.fr x :: tm) σ (v :: tv) H := let ⟨F, O, R⟩ := R; ⟨F, O, R.push (h F)⟩
theorem Rel.int (R : Rel K B lv st tm σ tv H) (i : Int) : Rel K B lv st (.fr (.int i) :: tm) σ (.int i :: tv) H := R.push_fr fun _ => .int i
theorem Rel.bl (R : Rel K B lv st tm σ tv H) (i : Bool) : Rel K B lv st (.fr (.bool i) :: tm) σ (.bl i :: tv) H := R.push_fr fun _ => .bl i
theorem Rel.str (R : Rel K B lv st tm σ tv H) (i : Str) : Rel K B lv st (.fr (.str i) :: tm) σ (.str i :: tv) H := R.push_fr fun _ => .str i
theorem Rel.cst (R : Rel K B lv st tm σ tv H) (c : V) : Rel K B lv st (.cst c :: tm) σ (c :: tv) H := let ⟨F, O, R⟩ := R; ⟨F, O, R.push rfl⟩

/-! ### what stands at a temp -/
theorem RelX.top (R : RelX K B lv st (d :: tm) σ (v :: tv) H F O) (h : ∀ i, d ≠ .bor i) : VR K F O H (.inr tm.length) v d := by
  rcases R.tp.1 with ⟨i, e, _⟩ | h'
  · exact absurd e (h i)
  · exact h'
theorem Rel.isInt {i : Int} (R : Rel K B lv st (.fr (.int i) :: tm) σ (v :: tv) H) : v = .int i := by
  obtain ⟨F, O, R⟩ := R
  have h : Rp K F H v (.int i) := R.top (fun i z => by cases z)
  cases h; rfl
theorem Rel.isBl {i : Bool} (R : Rel K B lv st (.fr (.bool i) :: tm) σ (v :: tv) H) : v = .bl i := by
  obtain ⟨F, O, R⟩ := R
  have h : Rp K F H v (.bool i) := R.top (fun i z => by cases z)
  cases h; rfl
theorem Rel.isCst {c : V} (R : Rel K B lv st (.cst c :: tm) σ (v :: tv) H) : v = c := by
  obtain ⟨F, O, R⟩ := R
  exact R.top (d := .cst c) (fun i z => by cases z)
/-- what a value is, as data -/
def pyO (st : List Vl) : Vl → Option PyData
  | .fr d => some d
  | .ow ds => some (.list ds)
  | .scr ns => some (.list (ns.map .int))
  | .bor i => match st[i]? with
    | some (.fr d) => some d
    | some (.ow ds) => some (.list ds)
    | some (.scr ns) => some (.list (ns.map .int))
    | _ => none
  | _ => none
/-- .. but the script -/
def pyT (st : List Vl) : Vl → Option PyData
  | .fr d => some d
  | .ow ds => some (.list ds)
  | .bor i => match st[i]? with
    | some (.fr d) => some d
    | some (.ow ds) => some (.list ds)
    | _ => none
  | _ => none
theorem pyO_of_pyT {st : List Vl} {d : Vl} {x : PyData} (e : pyT st d = some x) : pyO st d = some x := by
  cases d with
  | fr _ => exact e
  | ow _ => exact e
  | bor i =>
    unfold pyT at e
    unfold pyO
    dsimp only at e ⊢
    cases q : st[i]? with
    | none => rw [q] at e; cases e
    | some y => rw [q] at e; cases y <;> first | exact e | cases e
  | dk _ => cases e
  | cst _ => cases e
  | scr _ => cases e
  | exn _ => cases e
  | un _ => cases e
  | gone => cases e
theorem vr_view {w : Ow} {x : PyData} (h : VR K F O H w v d) (e : pyT st d = some x) : Rp K F H v x ∨ ∃ a vs ds, x = .list ds ∧ v = .ref a ∧ O a = some w ∧ H a = some (.lst vs) ∧ RpA K F H vs ds := by
  cases d with
  | fr d => cases e; exact .inl h
  | ow ds => cases e; obtain ⟨a, vs, e1, e2, e3, e4⟩ := h; exact .inr ⟨a, vs, ds, rfl, e1, e2, e3, e4⟩
  | dk _ => cases e
  | cst _ => cases e
  | scr _ => cases e
  | exn _ => cases e
  | un _ => cases e
  | gone => cases e
  | bor _ => exact False.elim h
theorem RelX.view {x : PyData} (R : RelX K B lv st (d :: tm) σ (v :: tv) H F O) (e : pyT st d = some x) : Rp K F H v x ∨ ∃ a vs ds w, x = .list ds ∧ v = .ref a ∧ O a = some w ∧ H a = some (.lst vs) ∧ RpA K F H vs ds := by
  rcases R.tp.1 with ⟨i, e1, h1⟩ | h
  · subst e1
    unfold pyT at e
    dsimp only at e
    cases q : st[i]? with
    | none => rw [q] at e; cases e
    | some y =>
      rw [q] at e
      have e' : pyT st y = some x := by
        cases y <;> first | exact e | cases e
      rcases R.sl i y q with z | ⟨v', h2, h3⟩
      · subst z; cases e
      · rw [h1] at h2
        cases h2
        rcases vr_view h3 e' with z | ⟨a, vs, ds, z1, z2, z3, z4⟩
        · exact .inl z
        · exact .inr ⟨a, vs, ds, _, z1, z2, z3, z4⟩
  · rcases vr_view h e with z | ⟨a, vs, ds, z1, z2, z3, z4⟩
    · exact .inl z
    · exact .inr ⟨a, vs, ds, _, z1, z2, z3, z4⟩
/-- .. or the script -/
theorem RelX.viewO {x : PyData} (R : RelX K B lv st (d :: tm) σ (v :: tv) H F O) (e : pyO st d = some x) : pyT st d = some x ∨ ∃ (a : Addr) (ns : List Int), x = .list (ns.map PyData.int) ∧ v = .ref a ∧ SqL K H a (ns.map V.int) := by
  have scr : ∀ (w : Ow) ns, VR K F O H w v (.scr ns) → some (PyData.list (ns.map .int)) = some x → ∃ (a : Addr) (ns : List Int), x = .list (ns.map PyData.int) ∧ v = .ref a ∧ SqL K H a (ns.map V.int) := fun w ns ⟨a, h1, h3⟩ e => by
    cases e
    exact ⟨a, ns, rfl, h1, h3.sq⟩
  cases d with
  | fr _ => exact .inl e
  | ow _ => exact .inl e
  | bor i =>
    rcases R.tp.1 with ⟨i', e1, h1⟩ | h
    · cases e1
      unfold pyO at e
      unfold pyT
      dsimp only at e ⊢
      cases q : st[i]? with
      | none => rw [q] at e; cases e
      | some y =>
        rw [q] at e
        cases y with
        | fr _ => exact .inl e
        | ow _ => exact .inl e
        | scr ns =>
          rcases R.sl i _ q with z | ⟨v', h2, h3⟩
          · cases z
          · rw [h1] at h2; cases h2
            exact .inr (scr _ ns h3 e)
        | dk _ => cases e
        | cst _ => cases e
        | exn _ => cases e
        | un _ => cases e
        | gone => cases e
        | bor _ => cases e
    · exact h.elim
  | exn _ => cases e
  | un _ => cases e
  | scr ns => exact .inr (scr _ ns (R.top (d := .scr ns) (fun i z => by cases z)) e)
  | dk _ => cases e
  | cst _ => cases e
  | gone => cases e
theorem RelX.dp {x : PyData} (R : RelX K B lv st (d :: tm) σ (v :: tv) H F O) (e : pyO st d = some x) : Dq K H v x := by
  rcases R.viewO e with e | ⟨a, ns, rfl, rfl, h⟩
  · rcases R.view e with h | ⟨a, vs, ds, w, rfl, rfl, _, h, r⟩
    · exact Rp.dp _ _ h
    · exact .lst (SqL.of h) (RpA.dp _ _ r)
  · exact .lst h (RpA.dp (F := F) _ _ (RpA.ofInts ns))
theorem Rel.dp {x : PyData} (R : Rel K B lv st (d :: tm) σ (v :: tv) H) (e : pyO st d = some x) : Dq K H v x := let ⟨F, O, R⟩ := R; R.dp e
theorem RelX.lst {ds : List PyData} (R : RelX K B lv st (d :: tm) σ (v :: tv) H F O) (e : pyO st d = some (.list ds)) : ∃ a vs, v = .ref a ∧ SqL K H a vs ∧ RpA K F H vs ds := by
  rcases R.viewO e with e | ⟨a, ns, e', rfl, h⟩
  · rcases R.view e with h | ⟨a, vs, ds', w, e1, rfl, _, h, r⟩
    · cases h with
      | lst f h r => exact ⟨_, _, rfl, SqL.of h, r⟩
    · cases e1; exact ⟨a, vs, rfl, SqL.of h, r⟩
  · cases e'; exact ⟨a, _, rfl, h, RpA.ofInts ns⟩
theorem RelX.lstT {ds : List PyData} (R : RelX K B lv st (d :: tm) σ (v :: tv) H F O) (e : pyT st d = some (.list ds)) : ∃ a vs, v = .ref a ∧ H a = some (.lst vs) ∧ RpA K F H vs ds := by
  rcases R.view e with h | ⟨a, vs, ds', w, e1, rfl, _, h, r⟩
  · cases h with
    | lst f h r => exact ⟨_, _, rfl, h, r⟩
  · cases e1; exact ⟨a, vs, rfl, h, r⟩
theorem RelX.tup {ds : List PyData} (R : RelX K B lv st (d :: tm) σ (v :: tv) H F O) (e : pyO st d = some (.tuple ds)) : ∃ a vs, v = .ref a ∧ SqT K H a vs ∧ RpA K F H vs ds := by
  rcases R.viewO e with e | ⟨a, ns, e', rfl, h⟩
  · rcases R.view e with h | ⟨a, vs, ds', w, e1, rfl, _, h, r⟩
    · cases h with
      | tup h r => exact ⟨_, _, rfl, h, r⟩
    · cases e1
  · cases e'
theorem Rel.lst {ds : List PyData} (R : Rel K B lv st (d :: tm) σ (v :: tv) H) (e : pyO st d = some (.list ds)) : ∃ a vs, v = .ref a ∧ SqL K H a vs ∧ vs.length = ds.length := by
  obtain ⟨F, O, R⟩ := R
  obtain ⟨a, vs, h1, h2, r⟩ := R.lst e
  exact ⟨a, vs, h1, h2, r.length⟩
theorem Rel.tup {ds : List PyData} (R : Rel K B lv st (d :: tm) σ (v :: tv) H) (e : pyO st d = some (.tuple ds)) : ∃ a vs, v = .ref a ∧ SqT K H a vs ∧ vs.length = ds.length := by
  obtain ⟨F, O, R⟩ := R
  obtain ⟨a, vs, h1, h2, r⟩ := R.tup e
  exact ⟨a, vs, h1, h2, r.length⟩
/-- scalars -/
theorem RelX.scal {x : PyData} (R : RelX K B lv st (d :: tm) σ (v :: tv) H F O) (e : pyO st d = some x) : (x = .none → v = .non) ∧ (∀ b, x = .bool b → v = .bl b) ∧ (∀ i, x = .int i → v = .int i) ∧ (∀ i, x = .str i → v = .str i) := by
  have h := R.dp e
  refine ⟨fun q => ?_, fun b q => ?_, fun b q => ?_, fun b q => ?_⟩ <;> (subst q; cases h; rfl)
end
end DL

/-! The data layer, part 2: what changes the state. -/
namespace DL
open PySem PySem.Spec PyProof.Rows L2
section
variable {K : PySem.W.Frag} {B : Ba} {lv : List (Nat × V)} {st tm : List Vl} {σ : L2.St} {tv : List V} {H H' : Hp} {F F' : Addr → Prop} {O O' : Addr → Option Ow} {v : V} {d : Vl} {a p : Addr}

theorem upd_le {o : HO} (hp : H p = none) : ∀ b u, H b = some u → upd H p o b = some u := fun b u e => by
  rw [upd_ne (ne_of_none e hp)]; exact e
/-- a new thing at p that nobody owns -/
theorem RelX.new {o : HO} (R : RelX K B lv st tm σ tv H F O) (hp : H p = none) : RelX K B lv st tm σ tv (upd H p o) F O :=
  R.grow (upd_le hp) (fun _ _ h => h) R.fo (fun b w h => by
    obtain ⟨u, e, n⟩ := R.oh b w h
    exact ⟨u, upd_le hp b u e, n⟩) R.mi
theorem RelX.oh' (R : RelX K B lv st tm σ tv H F O) {w : Ow} (h : O a = some w) (z : H a = none) : False := by
  obtain ⟨o, e, _⟩ := R.oh a w h
  rw [z] at e; cases e
/-- a new thing at p, a temp's -/
theorem RelX.newO {o : HO} (R : RelX K B lv st tm σ tv H F O) (hp : H p = none) (hs : ¬ Stl o) : RelX K B lv st tm σ tv (upd H p o) F (fun b => if b = p then some (.inr tm.length) else O b) :=
  R.grow (upd_le hp) (fun b w h => by
      by_cases e : b = p
      · subst e; exact (R.oh' h hp).elim
      · rw [if_neg e]; exact h)
    (fun b f => by
      by_cases e : b = p
      · subst e; exact absurd hp (R.fh b f)
      · rw [if_neg e]; exact R.fo b f)
    (fun b w h => by
      by_cases e : b = p
      · subst e; rw [upd_same]; exact ⟨o, rfl, hs⟩
      · rw [if_neg e] at h
        rw [upd_ne e]; exact R.oh b w h)
    (fun b w h => by
      by_cases e : b = p
      · subst e
        cases q : B.H0 b with
        | none => exact .inr rfl
        | some o =>
          by_cases n : B.A0 b
          · exact .inl n
          · rw [R.fr b o q n] at hp; cases hp
      · rw [if_neg e] at h; exact R.mi b w h)
theorem RelX.newTup {vs : List V} {ds : List PyData} (R : RelX K B lv st tm σ tv H F O) (hp : H p = none) (r : RpA K F H vs ds) : RelX K B lv st (.fr (.tuple ds) :: tm) σ (.ref p :: tv) (upd H p (.tup vs)) F O :=
  (R.new hp).push (Rp.tup (SqT.of upd_same) (r.keep (fun _ h => h) (fun b u e _ => upd_le hp b u e)))
theorem RelX.newLst {vs : List V} {ds : List PyData} (R : RelX K B lv st tm σ tv H F O) (hp : H p = none) (r : RpA K F H vs ds) : RelX K B lv st (.ow ds :: tm) σ (.ref p :: tv) (upd H p (.lst vs)) F (fun b => if b = p then some (.inr tm.length) else O b) :=
  (R.newO (o := .lst vs) hp (fun z => z)).push ⟨p, vs, rfl, if_pos rfl, upd_same, r.keep (fun _ h => h) (fun b u e _ => upd_le hp b u e)⟩
/-- temps as a list of data, the last one on top -/
theorem RelX.frs : ∀ {ds : List PyData} {vs : List V} {tm : List Vl} {tv : List V}, vs.length = ds.length → RelX K B lv st ((ds.map Vl.fr).reverse ++ tm) σ (vs.reverse ++ tv) H F O → RpA K F H vs ds ∧ RelX K B lv st tm σ tv H F O
  | [], [], tm, tv, _, R => ⟨.nil, R⟩
  | d :: ds, v :: vs, tm, tv, e, R => by
    rw [List.map_cons, List.reverse_cons, List.reverse_cons, List.append_assoc, List.append_assoc] at R
    obtain ⟨r, R'⟩ := RelX.frs (ds := ds) (vs := vs) (Nat.succ.inj e) R
    exact ⟨.cons (R'.top (d := .fr d) (fun i z => by cases z)) r, R'.pop⟩
  | [], _ :: _, _, _, e, _ => by cases e
  | _ :: _, [], _, _, e, _ => by cases e

/-! ### freezing -/
/-- who owns behind the freezing of a -/
theorem RelX.frz (R : RelX K B lv st tm σ tv H F O) (h : H a ≠ none) (ho : ∃ w, O a = some w)
    (hs : ∀ i, O a = some (.inl i) → False) (ht : ∀ n, O a = some (.inr n) → tm.length ≤ n) : RelX K B lv st tm σ tv H (fun b => F b ∨ b = a) (fun b => if b = a then none else O b) := by
  have kp : Kp F H H := fun _ _ e _ => e
  refine ⟨R.len, fun i d e => ?_, R.tp.keep (fun b f => .inl f) kp σ (fun b n hn e => ?_) (fun b o n _ _ e => e) (fun _ _ _ h => h), fun b f => ?_, fun b w e => ?_, fun b f => ?_, R.fr, fun b w e => ?_, fun b f => .inl (R.f0 b f), fun b f => ?_, R.lk⟩
  · rcases R.sl i d e with h | ⟨v, h1, h2⟩
    · exact .inl h
    · refine .inr ⟨v, h1, h2.keep (fun b f => .inl f) kp (fun b e => ?_) (fun b o _ e => e)⟩
      by_cases q : b = a
      · subst q; exact (hs i e).elim
      · rw [if_neg q]; exact e
  · by_cases q : b = a
    · subst q; exact absurd (ht n e) (Nat.not_le.mpr hn)
    · rw [if_neg q]; exact e
  · by_cases q : b = a
    · rw [if_pos q]
    · rw [if_neg q]; exact R.fo b (f.resolve_right q)
  · by_cases q : b = a
    · rw [if_pos q] at e; cases e
    · rw [if_neg q] at e; exact R.oh b w e
  · rcases f with f | rfl
    · exact R.fh b f
    · exact h
  · by_cases q : b = a
    · rw [if_pos q] at e; cases e
    · rw [if_neg q] at e; exact R.mi b w e
  · rcases f with f | rfl
    · exact R.f1 b f
    · obtain ⟨w, e⟩ := ho
      rcases R.mi b w e with z | z
      · exact .inr (.inr z)
      · exact .inr (.inl z)
def Vl.frz : Vl → Vl
  | .ow ds => .fr (.list ds)
  | d => d
theorem Rel.frzTop (R : Rel K B lv st (d :: tm) σ (v :: tv) H) : Rel K B lv st (d.frz :: tm) σ (v :: tv) H := by
  cases d with
  | ow ds =>
    obtain ⟨F, O, R⟩ := R
    obtain ⟨a, vs, rfl, ho, h, r⟩ := R.top (d := .ow ds) (fun i z => by cases z)
    have R1 := R.pop
    have R2 : RelX K B lv st tm σ tv H (fun b => F b ∨ b = a) (fun b => if b = a then none else O b) :=
      R1.frz (a := a) (by rw [h]; intro z; cases z) ⟨_, ho⟩ (fun i e => by rw [ho] at e; cases e) (fun n e => by rw [ho] at e; cases e; exact Nat.le_refl _)
    refine ⟨_, _, R2.push (d := .fr (.list ds)) (Rp.lst (.inr rfl) h (r.keep (fun b f => .inl f) fun _ _ e _ => e))⟩
  | _ => exact R

/-! ### slots -/
theorem RelX.setSl {i : Nat} {d' : Vl} (R : RelX K B lv st tm σ tv H F O) (hv : d' = .gone ∨ ∃ v, σ[i]? = some (some v) ∧ VR K F O H (.inl i) v d') : RelX K B lv (st.set i d') tm σ tv H F O := by
  refine ⟨by rw [List.length_set]; exact R.len, fun j e h => ?_, R.tp, R.fo, R.oh, R.fh, R.fr, R.mi, R.f0, R.f1, R.lk⟩
  by_cases q : i = j
  · subst q
    by_cases hl : i < st.length
    · rw [List.getElem?_set_self hl] at h
      cases h; exact hv
    · rw [List.getElem?_eq_none (by rw [List.length_set]; exact Nat.not_lt.mp hl)] at h; cases h
  · rw [List.getElem?_set_ne q] at h
    exact R.sl j e h
/-- read a slot with frozen data -/
theorem Rel.copy {i : Nat} {x : PyData} (R : Rel K B lv st tm σ tv H) (e : st[i]? = some (.fr x)) : ∃ v, σ[i]? = some (some v) ∧ Rel K B lv st (.fr x :: tm) σ (v :: tv) H := by
  obtain ⟨F, O, R⟩ := R
  rcases R.sl i _ e with z | ⟨v, h1, h2⟩
  · cases z
  · exact ⟨v, h1, F, O, R.push h2⟩
theorem Rel.copyC {i : Nat} {c : V} (R : Rel K B lv st tm σ tv H) (e : st[i]? = some (.cst c)) : ∃ v, σ[i]? = some (some v) ∧ Rel K B lv st (.cst c :: tm) σ (v :: tv) H := by
  obtain ⟨F, O, R⟩ := R
  rcases R.sl i _ e with z | ⟨v, h1, h2⟩
  · cases z
  · exact ⟨v, h1, F, O, R.push (d := .cst c) h2⟩
/-- an alias of a slot -/
theorem Rel.alias {i : Nat} (R : Rel K B lv st tm σ tv H) (e : st[i]? = some d) (hd : d ≠ .gone) : ∃ v, σ[i]? = some (some v) ∧ Rel K B lv st (.bor i :: tm) σ (v :: tv) H := by
  obtain ⟨F, O, R⟩ := R
  rcases R.sl i _ e with z | ⟨v, h1, h2⟩
  · exact absurd z hd
  · exact ⟨v, h1, F, O, R.len, R.sl, ⟨.inl ⟨i, rfl, h1⟩, R.tp⟩, R.fo, R.oh, R.fh, R.fr, R.mi, R.f0, R.f1, R.lk⟩
/-- a slot's own list is frozen -/
theorem Rel.frzSl {i : Nat} {ds : List PyData} (R : Rel K B lv st tm σ tv H) (e : st[i]? = some (.ow ds)) : Rel K B lv (st.set i (.fr (.list ds))) tm σ tv H := by
  obtain ⟨F, O, R⟩ := R
  rcases R.sl i _ e with z | ⟨v, h1, a, vs, rfl, ho, h, r⟩
  · cases z
  · have R0 : RelX K B lv (st.set i .gone) tm σ tv H F O := R.setSl (.inl rfl)
    have hno : ∀ j d', (st.set i .gone)[j]? = some d' → j = i → d' = .gone := fun j d' q z => by
      subst z
      have hl : j < st.length := (List.getElem?_eq_some_iff.mp e).1
      rw [List.getElem?_set_self hl] at q
      exact (Option.some.inj q).symm
    have kp : Kp F H H := fun _ _ e _ => e
    refine ⟨fun b => F b ∨ b = a, fun b => if b = a then none else O b, by rw [List.length_set]; exact R.len, fun j d' q => ?_, R.tp.keep (fun b f => .inl f) kp σ (fun b n hn z => ?_) (fun b o n _ _ z => z) (fun _ _ _ h => h), fun b f => ?_, fun b w z => ?_, fun b f => ?_, R.fr, fun b w z => ?_, fun b f => .inl (R.f0 b f), fun b f => ?_, R.lk⟩
    · by_cases hj : i = j
      · subst hj
        have hl : i < st.length := (List.getElem?_eq_some_iff.mp e).1
        rw [List.getElem?_set_self hl] at q
        cases q
        exact .inr ⟨_, h1, Rp.lst (.inr rfl) h (r.keep (fun b f => .inl f) kp)⟩
      · rw [List.getElem?_set_ne hj] at q
        rcases R.sl j d' q with z | ⟨u, g1, g2⟩
        · exact .inl z
        · refine .inr ⟨u, g1, g2.keep (fun b f => .inl f) kp (fun b z => ?_) (fun b o _ z => z)⟩
          rw [if_neg]
          · exact z
          · rintro rfl; rw [ho] at z; cases z; exact hj rfl
    · rw [if_neg]
      · exact z
      · rintro rfl; rw [ho] at z; cases z
    · by_cases q : b = a
      · rw [if_pos q]
      · rw [if_neg q]; exact R.fo b (f.resolve_right q)
    · by_cases q : b = a
      · rw [if_pos q] at z; cases z
      · rw [if_neg q] at z; exact R.oh b w z
    · rcases f with f | rfl
      · exact R.fh b f
      · rw [h]; intro z; cases z
    · by_cases q : b = a
      · rw [if_pos q] at z; cases z
      · rw [if_neg q] at z; exact R.mi b w z
    · rcases f with f | rfl
      · exact R.f1 b f
      · rcases R.mi b _ ho with z | z
        · exact .inr (.inr z)
        · exact .inr (.inl z)
/-- the top temp goes to a slot; no temp is an alias of that slot -/
theorem Rel.store {i : Nat} (R : Rel K B lv st (d :: tm) σ (v :: tv) H) (hb : ∀ j, d ≠ .bor j) (hi : i < st.length) (ht : Vl.bor i ∉ tm) (hl : ∀ p ∈ lv, p.1 ≠ i) : Rel K B lv (st.set i d) tm (σ.set i (some v)) tv H := by
  obtain ⟨F, O, R⟩ := R
  have h := R.top hb
  have kp : Kp F H H := fun _ _ e _ => e
  have hls : i < σ.length := by rw [← R.len]; exact hi
  refine ⟨F, fun b => if O b = some (.inr tm.length) then some (.inl i) else if O b = some (.inl i) then none else O b, by rw [List.length_set, List.length_set]; exact R.len, fun j d' q => ?_,
    R.tp.2.keep (fun _ f => f) kp _ (fun b n hn z => ?_) (fun b o n _ _ z => z) (fun j u hj z => ?_), fun b f => ?_, fun b w z => ?_, R.fh, R.fr, fun b w z => ?_, R.f0, R.f1, fun p hp => ?_⟩
  · by_cases hj : i = j
    · subst hj
      rw [List.getElem?_set_self hi] at q
      cases q
      refine .inr ⟨v, List.getElem?_set_self hls, h.keep (fun _ f => f) kp (fun b z => if_pos z) (fun b o _ z => z)⟩
    · rw [List.getElem?_set_ne hj] at q
      rcases R.sl j d' q with z | ⟨u, g1, g2⟩
      · exact .inl z
      · refine .inr ⟨u, by rw [List.getElem?_set_ne hj]; exact g1, g2.keep (fun _ f => f) kp (fun b z => ?_) (fun b o _ z => z)⟩
        rw [z, if_neg (by intro y; cases y), if_neg (by intro y; cases y; exact hj rfl)]
  · rw [z, if_neg (by intro y; cases y; exact absurd hn (Nat.lt_irrefl _)), if_neg (by intro y; cases y)]
  · rw [List.getElem?_set_ne]
    · exact z
    · rintro rfl; exact ht hj
  · rw [R.fo b f]; rfl
  · by_cases y : O b = some (.inr tm.length)
    · exact R.oh b _ y
    · rw [if_neg y] at z
      split at z
      · cases z
      · exact R.oh b _ z
  · by_cases y : O b = some (.inr tm.length)
    · exact R.mi b _ y
    · rw [if_neg y] at z
      split at z
      · cases z
      · exact R.mi b _ z
  · rw [List.getElem?_set_ne (fun e => hl p hp e.symm)]; exact R.lk p hp

/-! ### writing at what a slot owns -/
theorem RelX.write {i : Nat} {o' o : HO} {d' : Vl} {u : V} (R : RelX K B lv st tm σ tv H F O) (ho : O a = some (.inl i)) (h : H a = some o) (hn : ¬ Stl o) (hn' : ¬ Stl o') (hu : σ[i]? = some (some u)) (h' : VR K F O (upd H a o') (.inl i) u d') :
    RelX K B lv (st.set i d') tm σ tv (upd H a o') F O := by
  have kp : Kp F H (upd H a o') := fun b x e hb => by
    rw [upd_ne]
    · exact e
    · rintro rfl
      rcases hb with f | s
      · rw [R.fo _ f] at ho; cases ho
      · rw [h] at e; cases e; exact hn s
  refine ⟨by rw [List.length_set]; exact R.len, fun j d'' q => ?_, R.tp.keep (fun _ f => f) kp σ (fun b n _ z => z) (fun b x n _ z e => ?_) (fun _ _ _ z => z), R.fo, fun b w z => ?_, fun b f => ?_, fun b x e n => ?_, R.mi, R.f0, R.f1, R.lk⟩
  · by_cases hj : i = j
    · subst hj
      by_cases hl : i < st.length
      · rw [List.getElem?_set_self hl] at q
        cases q
        exact .inr ⟨u, hu, h'⟩
      · rw [List.getElem?_eq_none (by rw [List.length_set]; exact Nat.not_lt.mp hl)] at q; cases q
    · rw [List.getElem?_set_ne hj] at q
      rcases R.sl j d'' q with z | ⟨u, g1, g2⟩
      · exact .inl z
      · refine .inr ⟨u, g1, g2.keep (fun _ f => f) kp (fun b z => z) (fun b x z e => ?_)⟩
        rw [upd_ne]
        · exact e
        · rintro rfl; rw [ho] at z; cases z; exact hj rfl
  · rw [upd_ne]
    · exact e
    · rintro rfl; rw [ho] at z; cases z
  · by_cases q : b = a
    · subst q; rw [upd_same]; exact ⟨o', rfl, hn'⟩
    · rw [upd_ne q]; exact R.oh b w z
  · by_cases q : b = a
    · subst q; rw [upd_same]; intro y; cases y
    · rw [upd_ne q]; exact R.fh b f
  · rw [upd_ne]
    · exact R.fr b x e n
    · rintro rfl
      rcases R.mi _ _ ho with z | z
      · exact n z
      · rw [e] at z; cases z
/-- a list at a slot, through its alias on top of some temps -/
theorem RelX.ofAlias {i : Nat} {ds : List PyData} (R : RelX K B lv st (.bor i :: tm) σ (v :: tv) H F O) (e : st[i]? = some (.ow ds)) : ∃ a vs, v = .ref a ∧ O a = some (.inl i) ∧ H a = some (.lst vs) ∧ RpA K F H vs ds ∧ σ[i]? = some (some (.ref a)) := by
  rcases R.tp.1 with ⟨j, ej, h1⟩ | h
  · cases ej
    rcases R.sl i _ e with z | ⟨u, h2, a, vs, rfl, h3, h4, h5⟩
    · cases z
    · rw [h1] at h2; cases h2
      exact ⟨a, vs, rfl, h3, h4, h5, h1⟩
  · exact h.elim
/-- the list of slot i is written -/
theorem RelX.putL {i : Nat} {ds : List PyData} {vs : List V} (R : RelX K B lv st tm σ tv H F O) (ho : O a = some (.inl i)) {vs0 : List V} (h : H a = some (.lst vs0)) (hu : σ[i]? = some (some (.ref a))) (r : RpA K F H vs ds) : RelX K B lv (st.set i (.ow ds)) tm σ tv (upd H a (.lst vs)) F O := by
  have kp : Kp F H (upd H a (.lst vs)) := fun b x e hb => by
    rw [upd_ne]
    · exact e
    · rintro rfl
      rcases hb with f | s
      · rw [R.fo _ f] at ho; cases ho
      · rw [h] at e; cases e; exact s
  exact R.write ho h (fun z => z) (fun z => z) hu ⟨a, vs, rfl, ho, upd_same, r.keep (fun _ f => f) kp⟩
end
end DL

/-! The data layer, part 3: the judgements over data; expressions. -/
namespace DL
open PySem PySem.Spec PyProof.Rows L2

theorem PE.weak {X : Cx} {e : Expr} {t t' : TE} (h : PE X e t) (i : ∀ σ H Q, t' σ H Q → t σ H Q) : PE X e t' := ⟨fun pins s σ H Q I q => h.run pins s σ H Q I (i σ H Q q)⟩
theorem PT.weak {X : Cx} {e : Expr} {t t' : TT} (h : PT X e t) (i : ∀ σ H Q, t' σ H Q → t σ H Q) : PT X e t' := ⟨fun pins s σ H Q I q => h.run pins s σ H Q I (i σ H Q q)⟩
theorem PW.weak {X : Cx} {e : Expr} {t t' : TT} (h : PW X e t) (i : ∀ σ H Q, t' σ H Q → t σ H Q) : PW X e t' := ⟨fun wh pins s σ H Q I q => h.run wh pins s σ H Q I (i σ H Q q)⟩
theorem PA.weak {X : Cx} {e : List Expr} {t t' : TA} (h : PA X e t) (i : ∀ σ H Q, t' σ H Q → t σ H Q) : PA X e t' := ⟨fun wh pins s σ H Q I q => h.run wh pins s σ H Q I (i σ H Q q)⟩
theorem PS.weak {X : Cx} {e : Stmt} {t t' : TS} (h : PS X e t) (i : ∀ D σ H, t' D σ H → t D σ H) : PS X e t' := ⟨fun pins s σ H D I q => h.run pins s σ H D I (i D σ H q)⟩
theorem PSs.weak {X : Cx} {e : List Stmt} {t t' : TS} (h : PSs X e t) (i : ∀ D σ H, t' D σ H → t D σ H) : PSs X e t' := ⟨fun pins s σ H D I q => h.run pins s σ H D I (i D σ H q)⟩
theorem PG.weak {X : Cx} {e : Expr} {t t' : TG} (h : PG X e t) (i : ∀ v σ H Q, t' v σ H Q → t v σ H Q) : PG X e t' := ⟨fun pins s σ H v u Q I r q => h.run pins s σ H v u Q I r (i v σ H Q q)⟩

/-- the slots that stay are told in lk; those of the def's own call are among them -/
abbrev Lk (B : Ba) (lv : List (Nat × V)) (lk : List Nat) : Prop := (∀ p ∈ lv, p.1 ∈ lk) ∧ ∀ p ∈ B.L0, p ∈ lv
abbrev DT := List Vl → (Vl → List Vl → Prop) → Prop
abbrev DTT := List Vl → (Bool → List Vl → Prop) → Prop
abbrev DTA := List Vl → (List Vl → List Vl → Prop) → Prop
def LE (K : PySem.W.Frag) (B : Ba) (lk : List Nat) (t : DT) : TE := fun σ H Q => ∃ lv st tm tv Q0, Lk B lv lk ∧ Rel K B lv st tm σ tv H ∧ t st Q0 ∧ ∀ d st' v H', Q0 d st' → Rel K B lv st' (d :: tm) σ (v :: tv) H' → Q v H'
def LT (K : PySem.W.Frag) (B : Ba) (lk : List Nat) (t : DTT) : TT := fun σ H Q => ∃ lv st tm tv Q0, Lk B lv lk ∧ Rel K B lv st tm σ tv H ∧ t st Q0 ∧ ∀ b st' H', Q0 b st' → Rel K B lv st' tm σ tv H' → Q b H'
def LA (K : PySem.W.Frag) (B : Ba) (lk : List Nat) (t : DTA) : TA := fun σ H Q => ∃ lv st tm tv Q0, Lk B lv lk ∧ Rel K B lv st tm σ tv H ∧ t st Q0 ∧ ∀ ds st' vs H', Q0 ds st' → vs.length = ds.length → Rel K B lv st' (ds.reverse ++ tm) σ (vs.reverse ++ tv) H' → Q vs H'
abbrev DE (X : Cx) (B : Ba) (lk : List Nat) (e : Expr) (t : DT) : Prop := PE X e (LE X.K B lk t)
abbrev DC (X : Cx) (B : Ba) (lk : List Nat) (e : Expr) (t : DTT) : Prop := PT X e (LT X.K B lk t)
abbrev DW (X : Cx) (B : Ba) (lk : List Nat) (e : Expr) (t : DTT) : Prop := PW X e (LT X.K B lk t)
abbrev DA (X : Cx) (B : Ba) (lk : List Nat) (es : List Expr) (t : DTA) : Prop := PA X es (LA X.K B lk t)

/-! ### constants, names -/
def cK (d : Vl) : DT := fun st Q => Q d st
section
variable {X : Cx} {B : Ba} {lk : List Nat} {a b e : Expr} {es rest : List Expr} {ta tb : DT} {pos : Pos}
theorem de_int {i j} : DE X B lk (.Constant (.int i) j pos) (cK (.fr (.int i))) := PE.weak pe_int fun σ H Q ⟨lv, st, tm, tv, Q0, L, R, h, k⟩ => k _ _ _ _ h (R.int i)
theorem de_bl {i j} : DE X B lk (.Constant (.bool i) j pos) (cK (.fr (.bool i))) := PE.weak pe_bl fun σ H Q ⟨lv, st, tm, tv, Q0, L, R, h, k⟩ => k _ _ _ _ h (R.bl i)
/-- a name's value: frozen data is copied, what is owned is an alias -/
def cVar (i : Nat) : DT := fun st Q => match st[i]? with
  | some (.fr x) => Q (.fr x) st
  | some (.cst c) => Q (.cst c) st
  | some (.ow _) => Q (.bor i) st
  | some (.dk _) => Q (.bor i) st
  | some (.scr ns) => Q (.scr ns) st
  | some (.exn x) => Q (.exn x) st
  | some (.un _) => Q (.bor i) st
  | _ => False
theorem Rel.copyS {K : PySem.W.Frag} {lv : List (Nat × V)} {st tm : List Vl} {σ : L2.St} {tv : List V} {H : Hp} {i : Nat} {ns : List Int} (R : Rel K B lv st tm σ tv H) (e : st[i]? = some (.scr ns)) : ∃ v, σ[i]? = some (some v) ∧ Rel K B lv st (.scr ns :: tm) σ (v :: tv) H := by
  obtain ⟨F, O, R⟩ := R
  rcases R.sl i _ e with z | ⟨v, h1, h2⟩
  · cases z
  · exact ⟨v, h1, F, O, R.push (d := .scr ns) h2⟩
theorem Rel.copyX {K : PySem.W.Frag} {lv : List (Nat × V)} {st tm : List Vl} {σ : L2.St} {tv : List V} {H : Hp} {i : Nat} {x : Str} (R : Rel K B lv st tm σ tv H) (e : st[i]? = some (.exn x)) : ∃ v, σ[i]? = some (some v) ∧ Rel K B lv st (.exn x :: tm) σ (v :: tv) H := by
  obtain ⟨F, O, R⟩ := R
  rcases R.sl i _ e with z | ⟨v, h1, h2⟩
  · cases z
  · exact ⟨v, h1, F, O, R.push (d := .exn x) h2⟩
theorem de_var (i : Nat) {x : Str} (hN : X.N[i]? = some x := by rfl) (hv : Vis X.env.scope x := by first | exact Or.inl rfl | exact Or.inr (Or.inl rfl) | exact Or.inr (Or.inr rfl)) (hd : (x == ("__debug__" : Str)) = false := by decide)
    (hcd : (x == ("__classdict__" : Str)) = false := by decide) : DE X B lk (.Name x pos) (cVar i) := PE.weak (pe_var hN hv hd hcd) fun σ H Q ⟨lv, st, tm, tv, Q0, L, R, h, k⟩ => by
  unfold cVar at h
  cases q : st[i]? with
  | none => rw [q] at h; exact h.elim
  | some d =>
    rw [q] at h
    cases d with
    | fr x => obtain ⟨v, h1, R'⟩ := R.copy q; exact ⟨v, h1, k _ _ _ _ h R'⟩
    | cst x => obtain ⟨v, h1, R'⟩ := R.copyC q; exact ⟨v, h1, k _ _ _ _ h R'⟩
    | scr x => obtain ⟨v, h1, R'⟩ := R.copyS q; exact ⟨v, h1, k _ _ _ _ h R'⟩
    | exn x => obtain ⟨v, h1, R'⟩ := R.copyX q; exact ⟨v, h1, k _ _ _ _ h R'⟩
    | ow x => obtain ⟨v, h1, R'⟩ := R.alias q (by intro z; cases z); exact ⟨v, h1, k _ _ _ _ h R'⟩
    | dk x => obtain ⟨v, h1, R'⟩ := R.alias q (by intro z; cases z); exact ⟨v, h1, k _ _ _ _ h R'⟩
    | un x => obtain ⟨v, h1, R'⟩ := R.alias q (by intro z; cases z); exact ⟨v, h1, k _ _ _ _ h R'⟩
    | bor _ => exact h.elim
    | gone => exact h.elim
theorem de_globC {x : Str} {c : V} {u : Value} (hg : Gl X x) (hm : X.mg x = some u) (r : RelV c u) (hd : (x == ("__debug__" : Str)) = false := by decide) : DE X B lk (.Name x pos) (cK (.cst c)) :=
  PE.weak (pe_glob hg hm r hd) fun σ H Q ⟨lv, st, tm, tv, Q0, L, R, h, k⟩ => k _ _ _ _ h (R.cst c)
theorem de_bltn {x : Str} {c : V} {u : Value} (hg : Gl X x) (hm : X.mg x = none) (hv : bootBuiltins x = some u) (r : RelV c u) (hn : x ≠ "__name__" := by decide) (hd : (x == ("__debug__" : Str)) = false := by decide) : DE X B lk (.Name x pos) (cK (.cst c)) :=
  PE.weak (pe_bltn hg hm hv r hn hd) fun σ H Q ⟨lv, st, tm, tv, Q0, L, R, h, k⟩ => k _ _ _ _ h (R.cst c)

/-! ### taking over what is owned -/
/-- frozen: a fresh list, or a slot's own one (which is frozen there, too) -/
def cFrz (t : DT) : DT := fun st Q => t st fun d st' => match d with
  | .bor i => match st'[i]? with
    | some (.ow ds) => Q (.fr (.list ds)) (st'.set i (.fr (.list ds)))
    | _ => False
  | .ow ds => Q (.fr (.list ds)) st'
  | .fr d => Q (.fr d) st'
  | .cst c => Q (.cst c) st'
  | _ => False
theorem Rel.frzAlias {K : PySem.W.Frag} {lv : List (Nat × V)} {st tm : List Vl} {σ : L2.St} {v : V} {tv : List V} {H : Hp} {i : Nat} {ds : List PyData} (R : Rel K B lv st (.bor i :: tm) σ (v :: tv) H) (e : st[i]? = some (.ow ds)) :
    Rel K B lv (st.set i (.fr (.list ds))) (.fr (.list ds) :: tm) σ (v :: tv) H := by
  have hi : i < st.length := (List.getElem?_eq_some_iff.mp e).1
  have R1 := R.pop.frzSl e
  obtain ⟨u, h1, R2⟩ := R1.copy (i := i) (x := .list ds) (List.getElem?_set_self hi)
  obtain ⟨F, O, R⟩ := R
  obtain ⟨a, vs, e1, _, _, _, e2⟩ := R.ofAlias e
  rw [e2] at h1; cases h1; rw [e1]; exact R2
theorem de_frz (h : DE X B lk e ta) : DE X B lk e (cFrz ta) := PE.weak h fun σ H Q ⟨lv, st, tm, tv, Q0, L, R, h, k⟩ => by
  refine ⟨lv, st, tm, tv, _, L, R, h, fun d st' v H' q R' => ?_⟩
  cases d with
  | fr x => exact k _ _ _ _ q R'
  | ow ds => exact k _ _ _ _ q R'.frzTop
  | cst c => exact k _ _ _ _ q R'
  | bor i =>
    try dsimp only at q
    cases z : st'[i]? with
    | none => rw [z] at q; exact q.elim
    | some d =>
      rw [z] at q
      cases d with
      | ow ds => exact k _ _ _ _ q (R'.frzAlias z)
      | _ => exact False.elim q
  | _ => exact False.elim q
/-! ### operators -/
/-- a binary operation by data -/
abbrev DOp := List Vl → Vl → Vl → (Vl → List Vl → Prop) → Prop
def c2 (g : DOp) (ta tb : DT) : DT := fun st Q => ta st fun x st1 => tb st1 fun y st2 => g st2 x y Q
def DOk (K : PySem.W.Frag) (B : Ba) (g : DOp) (r : R2) : Prop := ∀ lv st tm σ tv H x y u v Q0 (Q : VK), Rel K B lv st (y :: x :: tm) σ (v :: u :: tv) H → g st x y Q0 → (∀ d st' w H', Q0 d st' → Rel K B lv st' (d :: tm) σ (w :: tv) H' → Q w H') → r u v H Q
theorem c2_weak {K : PySem.W.Frag} {g : DOp} {r : R2} (ok : DOk K B g r) {σ : L2.St} {H : Hp} {Q : VK} (h : LE K B lk (c2 g ta tb) σ H Q) : tOp r (LE K B lk ta) (LE K B lk tb) σ H Q := by
  obtain ⟨lv, st, tm, tv, Q0, L, R, h, k⟩ := h
  refine ⟨lv, st, tm, tv, _, L, R, h, fun x st1 u H1 h1 R1 => ?_⟩
  refine ⟨lv, st1, x :: tm, u :: tv, _, L, R1, h1, fun y st2 v H2 h2 R2 => ?_⟩
  exact ok lv st2 tm σ tv H2 x y u v Q0 Q R2 h2 fun d st' w H' q R' => k d st' w H' q R'
theorem de_op {op : Operator} {r : R2} {g : DOp} (ho : OpR X (binaryOp op) r) (ok : DOk X.K B g r) (ha : DE X B lk a ta) (hb : DE X B lk b tb) : DE X B lk (.BinOp a op b pos) (c2 g ta tb) := PE.weak (pe_op ho ha hb) fun _ _ _ h => c2_weak ok h
theorem de_cmp {op : CmpOp} {r : R2} {g : DOp} (ho : OpR X (compareOp op) r) (ok : DOk X.K B g r) (ha : DE X B lk a ta) (hb : DE X B lk b tb) (hm : behindInMarks op b = false) : DE X B lk (.Compare a [op] [b] pos) (c2 g ta tb) := PE.weak (pe_cmpR ho ha hb hm) fun _ _ _ h => c2_weak ok h
theorem de_ix {r : R2} {g : DOp} (hr : IxR X r) (ok : DOk X.K B g r) (ha : DE X B lk a ta) (hb : DE X B lk b tb) (hs : PlainIx b) : DE X B lk (.Subscript a b pos) (c2 g ta tb) := PE.weak (pe_ix hr ha hb hs) fun _ _ _ h => c2_weak ok h

/-- two ints -/
def gI (C : Int → Int → Prop) (f : Int → Int → PyData) : DOp := fun st x y Q => match x, y with
  | .fr (.int i), .fr (.int j) => C i j ∧ Q (.fr (f i j)) st
  | _, _ => False
theorem gI_ok {K : PySem.W.Frag} {C : Int → Int → Prop} {f : Int → Int → PyData} {g : Int → Int → V} (hf : ∀ F H i j, Rp K F H (g i j) (f i j)) {r : R2} (hr : ∀ i j H (Q : VK), C i j → Q (g i j) H → r (.int i) (.int j) H Q) : DOk K B (gI C f) r := by
  intro lv st tm σ tv H x y u v Q0 Q R h k
  unfold gI at h
  split at h
  · rename_i i j
    obtain ⟨c, h⟩ := h
    obtain rfl := R.isInt
    obtain rfl := R.pop.isInt
    exact hr i j H Q c (k _ _ _ _ h (R.pop.pop.push_fr fun F => hf F H i j))
  · exact h.elim
theorem gI_oki {K : PySem.W.Frag} {C : Int → Int → Prop} {f : Int → Int → Int} : DOk K B (gI C fun i j => .int (f i j)) (rI C fun i j => .int (f i j)) :=
  gI_ok (g := fun i j => .int (f i j)) (fun _ _ _ _ => .int _) fun i j H Q c q => ⟨i, j, rfl, rfl, c, q⟩
theorem gI_okb {K : PySem.W.Frag} {f : Int → Int → Bool} : DOk K B (gI (fun _ _ => True) fun i j => .bool (f i j)) (rI0 fun i j => .bl (f i j)) :=
  gI_ok (g := fun i j => .bl (f i j)) (fun _ _ _ _ => .bl _) fun i j H Q c q => ⟨i, j, rfl, rfl, q⟩
theorem de_sub (ha : DE X B lk a ta) (hb : DE X B lk b tb) : DE X B lk (.BinOp a .Sub b pos) (c2 (gI (fun _ _ => True) fun i j => .int (i - j)) ta tb) :=
  de_op op_sub (gI_ok (g := fun i j => .int (i - j)) (fun _ _ _ _ => .int _) fun i j H Q c q => ⟨i, j, rfl, rfl, q⟩) ha hb
theorem de_lt (ha : DE X B lk a ta) (hb : DE X B lk b tb) : DE X B lk (.Compare a [.Lt] [b] pos) (c2 (gI (fun _ _ => True) fun i j => .bool (decide (i < j))) ta tb) := de_cmp op_lt gI_okb ha hb (nomark _)
theorem de_ge (ha : DE X B lk a ta) (hb : DE X B lk b tb) : DE X B lk (.Compare a [.GtE] [b] pos) (c2 (gI (fun _ _ => True) fun i j => .bool (decide (j ≤ i))) ta tb) := de_cmp op_ge gI_okb ha hb (nomark _)
/-- + of ints, texts, lists, tuples -/
def gAdd : DOp := fun st x y Q => match pyT st x, pyT st y with
  | some (.int i), some (.int j) => Q (.fr (.int (i + j))) st
  | some (.str a), some (.str b) => a.length + b.length ≤ sizeLine ∧ Q (.fr (.str (a ++ b))) st
  | some (.list a), some (.list b) => a.length + b.length ≤ sizeLine ∧ Q (.ow (a ++ b)) st
  | some (.tuple a), some (.tuple b) => a.length + b.length ≤ sizeLine ∧ Q (.fr (.tuple (a ++ b))) st
  | _, _ => False
def rAdd4 (K : PySem.W.Frag) : R2 := fun x y H Q => (∃ i j, x = .int i ∧ y = .int j ∧ Q (.int (i + j)) H) ∨ (∃ i j, x = .str i ∧ y = .str j ∧ i.length + j.length ≤ sizeLine ∧ Q (.str (i ++ j)) H) ∨ rCat x y H Q ∨ rCatA K x y H Q
theorem op_add4 : OpR X (binaryOp .Add) (rAdd4 X.K) := op_add.or (op_add_str.or (op_cat.or op_catA))
end

section
variable {X : Cx} {B : Ba} {lk : List Nat} {a b e : Expr} {es rest : List Expr} {ta tb : DT} {pos : Pos} {K : PySem.W.Frag}
theorem pyT_int {K : PySem.W.Frag} {B : Ba} {lv : List (Nat × V)} {st tm : List Vl} {σ : L2.St} {tv : List V} {H : Hp} {x : Vl} {u : V} {i : Int} (R : Rel K B lv st (x :: tm) σ (u :: tv) H) (e : pyT st x = some (.int i)) : u = .int i := by
  obtain ⟨F, O, R⟩ := R
  exact (R.scal (pyO_of_pyT e)).2.2.1 i rfl
theorem pyT_str {K : PySem.W.Frag} {B : Ba} {lv : List (Nat × V)} {st tm : List Vl} {σ : L2.St} {tv : List V} {H : Hp} {x : Vl} {u : V} {i : Str} (R : Rel K B lv st (x :: tm) σ (u :: tv) H) (e : pyT st x = some (.str i)) : u = .str i := by
  obtain ⟨F, O, R⟩ := R
  exact (R.scal (pyO_of_pyT e)).2.2.2 i rfl
theorem gAdd_ok : DOk K B gAdd (rAdd4 K) := by
  intro lv st tm σ tv H x y u v Q0 Q R h k
  unfold gAdd at h
  split at h
  · rename_i i j e1 e2
    obtain rfl := pyT_int R e2
    obtain rfl := pyT_int R.pop e1
    exact .inl ⟨i, j, rfl, rfl, k _ _ _ _ h (R.pop.pop.int _)⟩
  · rename_i i j e1 e2
    obtain rfl := pyT_str R e2
    obtain rfl := pyT_str R.pop e1
    exact .inr (.inl ⟨i, j, rfl, rfl, h.1, k _ _ _ _ h.2 (R.pop.pop.str _)⟩)
  · rename_i i j e1 e2
    obtain ⟨F, O, R⟩ := R
    obtain ⟨a, vs, rfl, h1, r1⟩ := R.lstT e2
    obtain ⟨b, ws, rfl, h2, r2⟩ := R.pop.lstT e1
    refine .inr (.inr (.inl ⟨b, a, ws, vs, rfl, rfl, h2, h1, by rw [r1.length, r2.length]; exact h.1, fun p hp => k _ _ _ _ h.2 ⟨F, _, R.pop.pop.newLst hp (r2.append r1)⟩⟩))
  · rename_i i j e1 e2
    obtain ⟨F, O, R⟩ := R
    obtain ⟨a, vs, rfl, h1, r1⟩ := R.tup (pyO_of_pyT e2)
    obtain ⟨b, ws, rfl, h2, r2⟩ := R.pop.tup (pyO_of_pyT e1)
    refine .inr (.inr (.inr ⟨b, a, ws, vs, rfl, rfl, h2, h1, by rw [r1.length, r2.length]; exact h.1, fun z => ?_, fun z1 z2 => ?_, fun z1 z2 p hp => k _ _ _ _ h.2 ⟨F, _, R.pop.pop.newTup hp (r2.append r1)⟩⟩))
    · subst z
      cases r2
      exact k _ _ _ _ h.2 ⟨F, O, R.pop.pop.push (d := .fr (.tuple ([] ++ j))) (Rp.tup h1 r1)⟩
    · subst z2
      cases r1
      exact k _ _ _ _ h.2 ⟨F, O, R.pop.pop.push (d := .fr (.tuple (i ++ []))) (Rp.tup h2 (by rw [List.append_nil]; exact r2))⟩
  · exact h.elim
theorem de_add (ha : DE X B lk a ta) (hb : DE X B lk b tb) : DE X B lk (.BinOp a .Add b pos) (c2 gAdd ta tb) := de_op op_add4 gAdd_ok ha hb
/-- * of ints; of a list, of a tuple by an int: see DL4 -/
theorem op_mulA : OpR X (binaryOp .Mult) (rI IntMulOk fun i j => .int (i * j)) := opI fun _ _ _ _ _ _ _ hc q => mul_int q hc
theorem de_mul (ha : DE X B lk a ta) (hb : DE X B lk b tb) : DE X B lk (.BinOp a .Mult b pos) (c2 (gI IntMulOk fun i j => .int (i * j)) ta tb) := de_op op_mulA gI_oki ha hb
theorem mulL {i j : Int} (h1 : -(2 ^ 64) < i) (h2 : i < 2 ^ 64) : IntMulOk i j := .of_left (intBits_le_64 h1 h2)
theorem mulR {i j : Int} (h1 : -(2 ^ 64) < j) (h2 : j < 2 ^ 64) : IntMulOk i j := .of_right (intBits_le_64 h1 h2)
def CD (_ j : Int) : Prop := 0 < j ∧ j < 2 ^ 1000
theorem CD.log {i j : Int} (h : CD i j) : j.natAbs.log2 < 9000 := by
  have h1 : j.natAbs < 2 ^ 1000 := by
    have := h.1
    have := h.2
    omega
  have := (Nat.log2_lt (by have := h.1; omega)).mpr h1
  omega
theorem op_fdivA : OpR X (binaryOp .FloorDiv) (rI CD fun i j => .int (i / j)) := opI fun i j _ _ _ _ _ hc q => by
  refine floordiv_int (by have := hc.1; omega) ?_ (.inl (PyProof.noPylong_of_log2 hc.log))
  rw [Int.fdiv_eq_ediv_of_nonneg _ (by have := hc.1; omega)]; exact q
theorem de_fdiv (ha : DE X B lk a ta) (hb : DE X B lk b tb) : DE X B lk (.BinOp a .FloorDiv b pos) (c2 (gI CD fun i j => .int (i / j)) ta tb) := de_op op_fdivA gI_oki ha hb
theorem de_mod (ha : DE X B lk a ta) (hb : DE X B lk b tb) : DE X B lk (.BinOp a .Mod b pos) (c2 (gI (fun _ j => 0 < j) fun i j => .int (i % j)) ta tb) := de_op op_mod gI_oki ha hb
theorem de_pow (ha : DE X B lk a ta) (hb : DE X B lk b tb) : DE X B lk (.BinOp a .Pow b pos) (c2 (gI CPow fun i j => .int (i ^ j.toNat)) ta tb) := de_op op_pow gI_oki ha hb
/-- no dict within, at most k deep -/
def dep : Nat → PyData → Bool
  | _, .none => true
  | _, .bool _ => true
  | _, .int _ => true
  | _, .str _ => true
  | 0, .list _ => false
  | 0, .tuple _ => false
  | _, .dict _ => false
  | k + 1, .list xs => xs.all (dep k)
  | k + 1, .tuple xs => xs.all (dep k)
theorem dep_all {k : Nat} (h : ∀ d, dep k d = true → d.plain = true ∧ d.depth ≤ k) : ∀ xs : List PyData, xs.all (dep k) = true → PyData.plainAll xs = true ∧ PyData.depthAll xs ≤ k
  | [], _ => ⟨rfl, Nat.zero_le _⟩
  | x :: xs, e => by
    rw [List.all_cons, Bool.and_eq_true] at e
    obtain ⟨a, b⟩ := h x e.1
    obtain ⟨c, d⟩ := dep_all h xs e.2
    refine ⟨by rw [PyData.plainAll, a, c]; rfl, ?_⟩
    rw [PyData.depthAll]
    exact Nat.max_le.mpr ⟨b, d⟩
theorem dep_ok : ∀ (k : Nat) (d : PyData), dep k d = true → d.plain = true ∧ d.depth ≤ k
  | k, .none, _ => ⟨rfl, Nat.zero_le _⟩
  | k, .bool _, _ => ⟨rfl, Nat.zero_le _⟩
  | k, .int _, _ => ⟨rfl, Nat.zero_le _⟩
  | k, .str _, _ => ⟨rfl, Nat.zero_le _⟩
  | 0, .list _, h => by simp [dep] at h
  | 0, .tuple _, h => by simp [dep] at h
  | 0, .dict _, h => by simp [dep] at h
  | k + 1, .dict _, h => by simp [dep] at h
  | k + 1, .list xs, h => by
    obtain ⟨a, b⟩ := dep_all (dep_ok k) xs (by simpa [dep] using h)
    exact ⟨by simpa [PyData.plain] using a, by simp only [PyData.depth]; omega⟩
  | k + 1, .tuple xs, h => by
    obtain ⟨a, b⟩ := dep_all (dep_ok k) xs (by simpa [dep] using h)
    exact ⟨by simpa [PyData.plain] using a, by simp only [PyData.depth]; omega⟩
theorem dep_nd : ∀ (k : Nat) (d : PyData), dep k d = true → nd d = true
  | k, .none, _ => by simp [nd]
  | k, .bool _, _ => by simp [nd]
  | k, .int _, _ => by simp [nd]
  | k, .str _, _ => by simp [nd]
  | 0, .list _, h => by simp [dep] at h
  | 0, .tuple _, h => by simp [dep] at h
  | 0, .dict _, h => by simp [dep] at h
  | k + 1, .dict _, h => by simp [dep] at h
  | k + 1, .list xs, h => by
    rw [nd]
    exact ndA_of fun x hx => dep_nd k x (List.all_eq_true.mp (by simpa [dep] using h) x hx)
  | k + 1, .tuple xs, h => by
    rw [nd]
    exact ndA_of fun x hx => dep_nd k x (List.all_eq_true.mp (by simpa [dep] using h) x hx)
theorem dep_ndA {k : Nat} {xs : List PyData} (h : xs.all (dep k) = true) : ndA xs = true := ndA_of fun x hx => dep_nd k x (List.all_eq_true.mp h x hx)
theorem dep_list {k : Nat} {xs : List PyData} (h : xs.all (dep k) = true) : PyData.plainAll xs = true ∧ PyData.depthAll xs ≤ k := dep_all (dep_ok k) xs h
abbrev Un0 (X : Cx) : Prop := X.A.units + 100 < cLine
/-- == and != of data -/
def gEq (neg : Bool) : DOp := fun st x y Q => match pyO st x, pyO st y with
  | some d, some e => dep 60 d = true ∧ dep 60 e = true ∧ Q (.fr (.bool (if neg then !PyData.eqv d e else PyData.eqv d e))) st
  | _, _ => False
def rEqP (K : PySem.W.Frag) (neg : Bool) : R2 := fun x y H Q => ∃ d e, Dq K H x d ∧ Dq K H y e ∧ dep 60 d = true ∧ dep 60 e = true ∧ Q (.bl (if neg then !PyData.eqv d e else PyData.eqv d e)) H
theorem op_eqP (hu : Un0 X) : OpR X (compareOp .Eq) (rEqP X.K false) := by
  intro pins s σ H x y v u Q I rx ry h
  obtain ⟨d, e, hd, he, sd, se, q⟩ := h
  obtain ⟨as, r1⟩ := Dq.reads I d x v (dep_nd _ _ sd) hd rx
  obtain ⟨bs, r2⟩ := Dq.reads I e y u (dep_nd _ _ se) he ry
  have e1 := dep_ok 60 d sd
  have e2 := dep_ok 60 e se
  exact SeqAt.eq_plain r1 r2 e1.1 e2.1 (by have := e1.2; have : min d.depth e.depth ≤ d.depth := Nat.min_le_left _ _; have hu' : X.A.units + 100 < cLine := hu; omega) ⟨.bl _, H, I, rfl, q⟩
theorem op_neP (hu : Un0 X) : OpR X (compareOp .NotEq) (rEqP X.K true) := by
  intro pins s σ H x y v u Q I rx ry h
  obtain ⟨d, e, hd, he, sd, se, q⟩ := h
  obtain ⟨as, r1⟩ := Dq.reads I d x v (dep_nd _ _ sd) hd rx
  obtain ⟨bs, r2⟩ := Dq.reads I e y u (dep_nd _ _ se) he ry
  have e1 := dep_ok 60 d sd
  have e2 := dep_ok 60 e se
  exact SeqAt.ne_plain r1 r2 e1.1 e2.1 (by have := e1.2; have : min d.depth e.depth ≤ d.depth := Nat.min_le_left _ _; have hu' : X.A.units + 100 < cLine := hu; omega) ⟨.bl _, H, I, rfl, q⟩
theorem gEq_ok {neg : Bool} : DOk K B (gEq neg) (rEqP K neg) := fun lv st tm σ tv H x y u v Q0 Q R h k => by
    unfold gEq at h
    split at h
    · rename_i d e e1 e2
      obtain ⟨s1, s2, q⟩ := h
      exact ⟨d, e, R.pop.dp e1, R.dp e2, s1, s2, k _ _ _ _ q (R.pop.pop.bl _)⟩
    · exact h.elim
theorem de_eq (hu : Un0 X) (ha : DE X B lk a ta) (hb : DE X B lk b tb) : DE X B lk (.Compare a [.Eq] [b] pos) (c2 (gEq false) ta tb) := de_cmp (op_eqP hu) gEq_ok ha hb (nomark _)
theorem de_ne (hu : Un0 X) (ha : DE X B lk a ta) (hb : DE X B lk b tb) : DE X B lk (.Compare a [.NotEq] [b] pos) (c2 (gEq true) ta tb) := de_cmp (op_neP hu) gEq_ok ha hb (nomark _)
/-- in, not in: a list, a tuple -/
def rInA (K : PySem.W.Frag) (neg : Bool) : R2 := fun x y H Q => ∃ d ds, Dq K H x d ∧ (Dq K H y (.list ds) ∨ Dq K H y (.tuple ds)) ∧ dep 60 d = true ∧ ds.all (dep 60) = true ∧ Q (.bl (if neg then !ds.any fun z => PyData.eqv z d else ds.any fun z => PyData.eqv z d)) H
def gIn (neg : Bool) : DOp := fun st x y Q => match pyO st x, pyO st y with
  | some d, some (.list ds) => dep 60 d = true ∧ ds.all (dep 60) = true ∧ Q (.fr (.bool (if neg then !ds.any fun z => PyData.eqv z d else ds.any fun z => PyData.eqv z d))) st
  | some d, some (.tuple ds) => dep 60 d = true ∧ ds.all (dep 60) = true ∧ Q (.fr (.bool (if neg then !ds.any fun z => PyData.eqv z d else ds.any fun z => PyData.eqv z d))) st
  | _, _ => False
theorem gIn_ok {neg : Bool} : DOk K B (gIn neg) (rInA K neg) := by
  intro lv st tm σ tv H x y u v Q0 Q R h k
  unfold gIn at h
  split at h
  · rename_i d ds e1 e2
    obtain ⟨s1, s2, q⟩ := h
    exact ⟨d, ds, R.pop.dp e1, .inl (R.dp e2), s1, s2, k _ _ _ _ q (R.pop.pop.bl _)⟩
  · rename_i d ds e1 e2
    obtain ⟨s1, s2, q⟩ := h
    exact ⟨d, ds, R.pop.dp e1, .inr (R.dp e2), s1, s2, k _ _ _ _ q (R.pop.pop.bl _)⟩
  · exact h.elim
theorem op_inA (hu : Un0 X) : OpR X (compareOp .In) (rInA X.K false) := by
  intro pins s σ H x y v u Q I rx ry h
  obtain ⟨d, ds, hd, he, sd, se, q⟩ := h
  obtain ⟨as, r1⟩ := Dq.reads I d x v (dep_nd _ _ sd) hd rx
  have e1 := dep_ok 60 d sd
  have e2 := dep_list se
  have hm : X.A.units + 1 + min (PyData.depthAll ds) d.depth < cLine := by have := e1.2; have : min (PyData.depthAll ds) d.depth ≤ d.depth := Nat.min_le_right _ _; have hu' : X.A.units + 100 < cLine := hu; omega
  rcases he with he | he
  · obtain ⟨bs, r2⟩ := Dq.reads I (.list ds) y u (dep_ndA se) he ry
    exact SeqAt.in_list_data r2 r1 e2.1 e1.1 hm ⟨.bl _, H, I, rfl, q⟩
  · obtain ⟨bs, r2⟩ := Dq.reads I (.tuple ds) y u (dep_ndA se) he ry
    exact SeqAt.in_tuple_data r2 r1 e2.1 e1.1 hm ⟨.bl _, H, I, rfl, q⟩
theorem op_notInA (hu : Un0 X) : OpR X (compareOp .NotIn) (rInA X.K true) := by
  intro pins s σ H x y v u Q I rx ry h
  obtain ⟨d, ds, hd, he, sd, se, q⟩ := h
  obtain ⟨as, r1⟩ := Dq.reads I d x v (dep_nd _ _ sd) hd rx
  have e1 := dep_ok 60 d sd
  have e2 := dep_list se
  have hm : X.A.units + 1 + min (PyData.depthAll ds) d.depth < cLine := by have := e1.2; have : min (PyData.depthAll ds) d.depth ≤ d.depth := Nat.min_le_right _ _; have hu' : X.A.units + 100 < cLine := hu; omega
  rcases he with he | he
  · obtain ⟨bs, r2⟩ := Dq.reads I (.list ds) y u (dep_ndA se) he ry
    exact SeqAt.notIn_list_data r2 r1 e2.1 e1.1 hm ⟨.bl _, H, I, rfl, q⟩
  · obtain ⟨bs, r2⟩ := Dq.reads I (.tuple ds) y u (dep_ndA se) he ry
    exact SeqAt.notIn_tuple_data r2 r1 e2.1 e1.1 hm ⟨.bl _, H, I, rfl, q⟩
/-! ### subscripts -/
def gIx : DOp := fun st x y Q => match pyO st x, y with
  | some (.list ds), .fr (.int i) => ∃ d, atI ds i = some d ∧ Q (.fr d) st
  | some (.tuple ds), .fr (.int i) => ∃ d, atI ds i = some d ∧ Q (.fr d) st
  | some (.str z), .fr (.int i) => ∃ c, z.length ≤ sizeLine ∧ atI z.cps.toList i = some c ∧ Q (.fr (.str ⟨#[c]⟩)) st
  | _, _ => False
theorem atI_rp {F : Addr → Prop} {H : Hp} {vs : List V} {ds : List PyData} {i : Int} {d : PyData} (r : RpA K F H vs ds) (h : atI ds i = some d) : ∃ v, atI vs i = some v ∧ Rp K F H v d := by
  unfold atI at h ⊢
  rw [r.length]
  cases e : ixN ds.length i with
  | none => rw [e] at h; cases h
  | some j =>
    rw [e] at h
    exact r.get h
theorem gIx_ok : DOk K B gIx (rIx K) := by
  intro lv st tm σ tv H x y u v Q0 Q R h k
  unfold gIx at h
  split at h
  · rename_i ds i e1
    obtain ⟨d, hd, q⟩ := h
    obtain rfl := R.isInt
    obtain ⟨F, O, R⟩ := R
    obtain ⟨a, vs, rfl, h1, r⟩ := R.pop.lst e1
    obtain ⟨w, hw, rw⟩ := atI_rp r hd
    exact .inl ⟨a, vs, i, w, rfl, rfl, h1, hw, k _ _ _ _ q ⟨F, O, R.pop.pop.push (d := .fr d) rw⟩⟩
  · rename_i ds i e1
    obtain ⟨d, hd, q⟩ := h
    obtain rfl := R.isInt
    obtain ⟨F, O, R⟩ := R
    obtain ⟨a, vs, rfl, h1, r⟩ := R.pop.tup e1
    obtain ⟨w, hw, rw⟩ := atI_rp r hd
    exact .inr (.inl ⟨a, vs, i, w, rfl, rfl, h1, hw, k _ _ _ _ q ⟨F, O, R.pop.pop.push (d := .fr d) rw⟩⟩)
  · rename_i z i e1
    obtain ⟨c, hl, hd, q⟩ := h
    obtain rfl := R.isInt
    have hu : u = .str z := by
      obtain ⟨F, O, R⟩ := R
      exact (R.pop.scal e1).2.2.2 z rfl
    exact .inr (.inr ⟨z, i, c, hu, rfl, hl, hd, k _ _ _ _ q (R.pop.pop.str _)⟩)
  · exact h.elim
theorem de_sub' (ha : DE X B lk a ta) (hb : DE X B lk b tb) (hs : PlainIx b := by exact fun _ _ => rfl) : DE X B lk (.Subscript a b pos) (c2 gIx ta tb) := de_ix ix_seq gIx_ok ha hb hs

/-! ### unary minus -/
def c1 (g : List Vl → Vl → (Vl → List Vl → Prop) → Prop) (ta : DT) : DT := fun st Q => ta st fun x st1 => g st1 x Q
def gNeg : List Vl → Vl → (Vl → List Vl → Prop) → Prop := fun st x Q => match x with
  | .fr (.int i) => Q (.fr (.int (-i))) st
  | _ => False
theorem de_neg (ha : DE X B lk a ta) : DE X B lk (.UnaryOp .USub a pos) (c1 gNeg ta) := PE.weak (pe_un un_neg ha) fun σ H Q ⟨lv, st, tm, tv, Q0, L, R, h, k⟩ => by
  refine ⟨lv, st, tm, tv, _, L, R, h, fun d st' v H' q R' => ?_⟩
  unfold gNeg at q
  split at q
  · obtain rfl := R'.isInt
    exact ⟨_, rfl, k _ _ _ _ q (R'.pop.int _)⟩
  · exact q.elim

/-! ### tests -/
def cTst (t : DT) : DTT := fun st Q => t st fun d st' => match d with
  | .fr (.bool b) => Q b st'
  | _ => False
theorem le_tst {K : PySem.W.Frag} {t : DT} {σ : L2.St} {H : Hp} {Q : Bool → Hp → Prop} (h : LT K B lk (cTst t) σ H Q) : LE K B lk t σ H (fun x H1 => ∃ c, x = .bl c ∧ Q c H1) := by
  obtain ⟨lv, st, tm, tv, Q0, L, R, h, k⟩ := h
  refine ⟨lv, st, tm, tv, _, L, R, h, fun d st' v H' q R' => ?_⟩
  try dsimp only at q
  split at q
  · obtain rfl := R'.isBl
    exact ⟨_, rfl, k _ _ _ q R'.pop⟩
  · exact q.elim
theorem dc_val {t : DT} (h : DE X B lk e t) (he : ∀ whole, isTrue e X.env whole = (do let v ← whole; standAt e.pos; holding [v] (truthy v)) := by intro _; rfl) : DC X B lk e (cTst t) := PT.weak (pt_val h he) fun σ H Q q => le_tst q
theorem dc_cmp {op : CmpOp} {r : R2} {g : DOp} (ho : OpR X (compareOp op) r) (ok : DOk X.K B g r) (ha : DE X B lk a ta) (hb : DE X B lk b tb) (hm : behindInMarks op b = false) : DC X B lk (.Compare a [op] [b] pos) (cTst (c2 g ta tb)) :=
  PT.weak (pt_cmpR ho ha hb hm) fun σ H Q ⟨lv, st, tm, tv, Q0, L, R, h, k⟩ => by
    refine c2_weak ok ⟨lv, st, tm, tv, _, L, R, h, fun d st' v H' q R' => ?_⟩
    try dsimp only at q
    split at q
    · obtain rfl := R'.isBl
      exact ⟨_, rfl, k _ _ _ q R'.pop⟩
    · exact q.elim
theorem dc_lt (ha : DE X B lk a ta) (hb : DE X B lk b tb) : DC X B lk (.Compare a [.Lt] [b] pos) (cTst (c2 (gI (fun _ _ => True) fun i j => .bool (decide (i < j))) ta tb)) := dc_cmp op_lt gI_okb ha hb (nomark _)
theorem dc_gt (ha : DE X B lk a ta) (hb : DE X B lk b tb) : DC X B lk (.Compare a [.Gt] [b] pos) (cTst (c2 (gI (fun _ _ => True) fun i j => .bool (decide (j < i))) ta tb)) := dc_cmp op_gt gI_okb ha hb (nomark _)
theorem dc_ge (ha : DE X B lk a ta) (hb : DE X B lk b tb) : DC X B lk (.Compare a [.GtE] [b] pos) (cTst (c2 (gI (fun _ _ => True) fun i j => .bool (decide (j ≤ i))) ta tb)) := dc_cmp op_ge gI_okb ha hb (nomark _)
theorem dc_eq (hu : Un0 X) (ha : DE X B lk a ta) (hb : DE X B lk b tb) : DC X B lk (.Compare a [.Eq] [b] pos) (cTst (c2 (gEq false) ta tb)) := dc_cmp (op_eqP hu) gEq_ok ha hb (nomark _)
theorem dc_ne (hu : Un0 X) (ha : DE X B lk a ta) (hb : DE X B lk b tb) : DC X B lk (.Compare a [.NotEq] [b] pos) (cTst (c2 (gEq true) ta tb)) := dc_cmp (op_neP hu) gEq_ok ha hb (nomark _)
theorem dc_in (hu : Un0 X) (ha : DE X B lk a ta) (hb : DE X B lk b tb) (hm : behindInMarks .In b = false := by rfl) : DC X B lk (.Compare a [.In] [b] pos) (cTst (c2 (gIn false) ta tb)) := dc_cmp (op_inA hu) gIn_ok ha hb hm
theorem dc_notIn (hu : Un0 X) (ha : DE X B lk a ta) (hb : DE X B lk b tb) (hm : behindInMarks .NotIn b = false := by rfl) : DC X B lk (.Compare a [.NotIn] [b] pos) (cTst (c2 (gIn true) ta tb)) := dc_cmp (op_notInA hu) gIn_ok ha hb hm
variable {tA tB' : DTT}
def cAnd (t u : DTT) : DTT := fun st Q => t st fun c st1 => if c = true then u st1 Q else Q false st1
def cOr (t u : DTT) : DTT := fun st Q => t st fun c st1 => if c = true then Q true st1 else u st1 Q
def cNot (t : DTT) : DTT := fun st Q => t st fun c st1 => Q (!c) st1
theorem dw_and1 (ha : DC X B lk a tA) : DW X B lk (.BoolOp .And [a] pos) tA := pw_and1 ha
theorem dw_or1 (ha : DC X B lk a tA) : DW X B lk (.BoolOp .Or [a] pos) tA := pw_or1 ha
theorem dw_and (ha : DC X B lk a tA) (hb : DW X B lk (.BoolOp .And (b :: rest) pos) tB') : DW X B lk (.BoolOp .And (a :: b :: rest) pos) (cAnd tA tB') := PW.weak (pw_and ha hb) fun σ H Q ⟨lv, st, tm, tv, Q0, L, R, h, k⟩ => by
  refine ⟨lv, st, tm, tv, _, L, R, h, fun c st' H' q R' => ?_⟩
  cases c with
  | true => rw [if_pos rfl] at q ⊢; exact ⟨lv, st', tm, tv, Q0, L, R', q, k⟩
  | false => rw [if_neg Bool.false_ne_true] at q ⊢; exact k _ _ _ q R'
theorem dw_or (ha : DC X B lk a tA) (hb : DW X B lk (.BoolOp .Or (b :: rest) pos) tB') : DW X B lk (.BoolOp .Or (a :: b :: rest) pos) (cOr tA tB') := PW.weak (pw_or ha hb) fun σ H Q ⟨lv, st, tm, tv, Q0, L, R, h, k⟩ => by
  refine ⟨lv, st, tm, tv, _, L, R, h, fun c st' H' q R' => ?_⟩
  cases c with
  | true => rw [if_pos rfl] at q ⊢; exact k _ _ _ q R'
  | false => rw [if_neg Bool.false_ne_true] at q ⊢; exact ⟨lv, st', tm, tv, Q0, L, R', q, k⟩
theorem dc_not (ha : DC X B lk a tA) : DC X B lk (.UnaryOp .Not a pos) (cNot tA) := PT.weak (pt_not ha) fun σ H Q ⟨lv, st, tm, tv, Q0, L, R, h, k⟩ =>
  ⟨lv, st, tm, tv, _, L, R, h, fun c st' H' q R' => k _ _ _ q R'⟩
/-- .. as values -/
def cAndV (ta tb : DT) : DT := fun st Q => ta st fun d st1 => match d with
  | .fr (.bool c) => if c = true then tb st1 Q else Q (.fr (.bool false)) st1
  | _ => False
def cNotV (ta : DT) : DT := fun st Q => ta st fun d st1 => match d with
  | .fr (.bool c) => Q (.fr (.bool (!c))) st1
  | _ => False
theorem de_one {op} (h : DE X B lk a ta) : DE X B lk (.BoolOp op [a] pos) ta := pe_one h
theorem de_and (ha : DE X B lk a ta) (hb : DE X B lk (.BoolOp .And (b :: rest) pos) tb) : DE X B lk (.BoolOp .And (a :: b :: rest) pos) (cAndV ta tb) := PE.weak (pe_and ha hb) fun σ H Q ⟨lv, st, tm, tv, Q0, L, R, h, k⟩ => by
  refine ⟨lv, st, tm, tv, _, L, R, h, fun d st' v H' q R' => ?_⟩
  try dsimp only at q
  split at q
  · rename_i c
    obtain rfl := R'.isBl
    refine ⟨c, rfl, ?_⟩
    cases c with
    | true => rw [if_pos rfl] at q ⊢; exact ⟨lv, st', tm, tv, Q0, L, R'.pop, q, k⟩
    | false => rw [if_neg Bool.false_ne_true] at q ⊢; exact k _ _ _ _ q (R'.pop.bl _)
  · exact q.elim
theorem de_not (ha : DE X B lk a ta) : DE X B lk (.UnaryOp .Not a pos) (cNotV ta) := PE.weak (pe_not ha) fun σ H Q ⟨lv, st, tm, tv, Q0, L, R, h, k⟩ => by
  refine ⟨lv, st, tm, tv, _, L, R, h, fun d st' v H' q R' => ?_⟩
  try dsimp only at q
  split at q
  · obtain rfl := R'.isBl
    exact ⟨_, rfl, k _ _ _ _ q (R'.pop.bl _)⟩
  · exact q.elim
/-- a chain of two comparisons of ints -/
def cCh (p q : Int → Int → Bool) (ta tb tc : DT) : DT := fun st Q => ta st fun x st1 => tb st1 fun y st2 => match x, y with
  | .fr (.int i), .fr (.int j) => if p i j = true then tc st2 fun z st3 => (match z with | .fr (.int k) => Q (.fr (.bool (q j k))) st3 | _ => False) else Q (.fr (.bool false)) st2
  | _, _ => False
theorem ch_weak {K : PySem.W.Frag} {p q : Int → Int → Bool} {tc : DT} {σ : L2.St} {H : Hp} {Q : VK} (h : LE K B lk (cCh p q ta tb tc) σ H Q) :
    tChain (rI0 fun i j => .bl (p i j)) (rI0 fun i j => .bl (q i j)) (LE K B lk ta) (LE K B lk tb) (LE K B lk tc) σ H Q := by
  obtain ⟨lv, st, tm, tv, Q0, L, R, h, k⟩ := h
  refine ⟨lv, st, tm, tv, _, L, R, h, fun x st1 u H1 h1 R1 => ?_⟩
  refine ⟨lv, st1, x :: tm, u :: tv, _, L, R1, h1, fun y st2 v H2 h2 R2 => ?_⟩
  try dsimp only at h2
  split at h2
  · rename_i i j
    obtain rfl := R2.isInt
    obtain rfl := R2.pop.isInt
    refine ⟨i, j, rfl, rfl, _, rfl, ?_⟩
    by_cases c : p i j = true
    · rw [if_pos c] at h2 ⊢
      refine ⟨lv, st2, _, _, _, L, R2, h2, fun z st3 w H3 h3 R3 => ?_⟩
      try dsimp only at h3
      split at h3
      · obtain rfl := R3.isInt
        exact ⟨_, _, rfl, rfl, k _ _ _ _ h3 (R3.pop.pop.pop.bl _)⟩
      · exact h3.elim
    · rw [if_neg c] at h2 ⊢
      exact k _ _ _ _ h2 (R2.pop.pop.bl _)
  · exact h2.elim
theorem de_ch {op op' : CmpOp} {p q : Int → Int → Bool} {c : Expr} {tc : DT} (ho : OpR X (compareOp op) (rI0 fun i j => .bl (p i j))) (ho' : OpR X (compareOp op') (rI0 fun i j => .bl (q i j))) (ha : DE X B lk a ta) (hb : DE X B lk b tb) (hc : DE X B lk c tc)
    (hm : lastMarks [op, op'] [b, c] = false := by with_unfolding_all rfl) : DE X B lk (.Compare a [op, op'] [b, c] pos) (cCh p q ta tb tc) := PE.weak (pe_chain ho ho' ha hb hc hm) fun _ _ _ h => ch_weak h
/-! ### argument lists, displays -/
def cNil : DTA := fun st Q => Q [] st
def cCons (ta : DT) (tr : DTA) : DTA := fun st Q => ta st fun x st1 => tr st1 fun xs st2 => Q (x :: xs) st2
theorem da_nil : DA X B lk [] cNil := PA.weak pa_nil fun σ H Q ⟨lv, st, tm, tv, Q0, L, R, h, k⟩ => k [] st [] H h rfl R
theorem da_cons {t : DTA} (ha : DE X B lk e ta) (hr : DA X B lk es t) (hs : starEach (e :: es) X.env = (false, eval e X.env) :: starEach es X.env := by rfl) : DA X B lk (e :: es) (cCons ta t) :=
  PA.weak (pa_cons ha hr hs) fun σ H Q ⟨lv, st, tm, tv, Q0, L, R, h, k⟩ => by
    refine ⟨lv, st, tm, tv, _, L, R, h, fun x st1 u H1 h1 R1 => ?_⟩
    refine ⟨lv, st1, x :: tm, u :: tv, _, L, R1, h1, fun xs st2 us H2 h2 hl R2 => ?_⟩
    refine k (x :: xs) st2 (u :: us) H2 h2 (congrArg (· + 1) hl) ?_
    rw [List.reverse_cons, List.reverse_cons, List.append_assoc, List.append_assoc]
    exact R2
def frs : List Vl → Option (List PyData)
  | [] => some []
  | .fr d :: ds => (frs ds).map (d :: ·)
  | _ :: _ => none
theorem frs_eq : ∀ {ds : List Vl} {xs : List PyData}, frs ds = some xs → ds = xs.map Vl.fr
  | [], xs, h => by cases h; rfl
  | .fr d :: ds, xs, h => by
    unfold frs at h
    cases e : frs ds with
    | none => rw [e] at h; cases h
    | some ys =>
      rw [e] at h
      cases h
      rw [frs_eq e]; rfl
  | .ow _ :: _, _, h => by cases h
  | .dk _ :: _, _, h => by cases h
  | .cst _ :: _, _, h => by cases h
  | .scr _ :: _, _, h => by cases h
  | .exn _ :: _, _, h => by cases h
  | .un _ :: _, _, h => by cases h
  | .bor _ :: _, _, h => by cases h
  | .gone :: _, _, h => by cases h
/-- a tuple, a list of frozen items -/
def cTup (t : DTA) : DT := fun st Q => t st fun ds st' => match frs ds with
  | some xs => xs.length ≤ sizeLine ∧ Q (.fr (.tuple xs)) st'
  | none => False
def cLst (t : DTA) : DT := fun st Q => t st fun ds st' => match frs ds with
  | some xs => xs.length ≤ sizeLine ∧ Q (.ow xs) st'
  | none => False
theorem de_tup {x1} {t : DTA} (h : DA X B lk es t) : DE X B lk (.Tuple es x1 pos) (cTup t) := PE.weak (pe_tup h) fun σ H Q ⟨lv, st, tm, tv, Q0, L, R, h, k⟩ => by
  refine ⟨lv, st, tm, tv, _, L, R, h, fun ds st' vs H' q hl R' => ?_⟩
  try dsimp only at q
  cases e : frs ds with
  | none => rw [e] at q; exact q.elim
  | some xs =>
    rw [e] at q
    obtain rfl := frs_eq e
    obtain ⟨F, O, R'⟩ := R'
    obtain ⟨r, R2⟩ := R'.frs (by simpa using hl)
    exact ⟨by rw [r.length]; exact q.1, fun p hp => k _ _ _ _ q.2 ⟨F, _, R2.newTup hp r⟩⟩
theorem de_lst {t : DTA} (h : DA X B lk es t) : DE X B lk (.List es pos) (cLst t) := PE.weak (pe_lst h) fun σ H Q ⟨lv, st, tm, tv, Q0, L, R, h, k⟩ => by
  refine ⟨lv, st, tm, tv, _, L, R, h, fun ds st' vs H' q hl R' => ?_⟩
  try dsimp only at q
  cases e : frs ds with
  | none => rw [e] at q; exact q.elim
  | some xs =>
    rw [e] at q
    obtain rfl := frs_eq e
    obtain ⟨F, O, R'⟩ := R'
    obtain ⟨r, R2⟩ := R'.frs (by simpa using hl)
    exact ⟨by rw [r.length]; exact q.1, fun p hp => k _ _ _ _ q.2 ⟨F, _, R2.newLst hp r⟩⟩
end
end DL

/-! The data layer, part 4: the call of a def; a def's promise over data. -/
namespace DL
open PySem PySem.Spec PyProof.Rows L2

/-- an exception of the program: its class, its attribute at -/
structure Xn where
  cls : Str
  at_ : Option PyData
def XnR (K : PySem.W.Frag) (mg : Str → Option Value) (F : Addr → Prop) (H : Hp) (x : Xn) (cls : Value) (d : Option Addr) : Prop :=
  cls = .ref (He.ga K x.cls) ∧ match x.at_ with
  | none => d = none
  | some p => ∃ dd v, d = some dd ∧ H dd = some (.xd [("at", v)]) ∧ Rp K F H v p
/-- a def's promise over data: the arguments, what is wanted of the result and the arguments behind, what is wanted of an exception -/
abbrev VSp := List Vl → (Vl → List Vl → Prop) → (Xn → List Vl → Prop) → Prop
structure Pre (K : PySem.W.Frag) (F0 : Addr → Prop) (O0 : Addr → Option Nat) (ds : List Vl) (vs : List V) (H : Hp) : Prop where
  len : ds.length = vs.length
  av : ∀ i d v, ds[i]? = some d → vs[i]? = some v → d = .gone ∨ VR K F0 (fun a => (O0 a).map Sum.inl) H (.inl i) v d
  fo : ∀ a, F0 a → O0 a = none
  fh : ∀ a, F0 a → H a ≠ none
  oh : ∀ a i, O0 a = some i → ∃ o, H a = some o ∧ ¬ Stl o
structure Post (K : PySem.W.Frag) (F0 : Addr → Prop) (O0 : Addr → Option Nat) (vs : List V) (H : Hp) (lk : List Nat) (ds' : List Vl) (H' : Hp) (F' : Addr → Prop) (O' : Addr → Option Ow) : Prop where
  av : ∀ i ∈ lk, ∀ d v, ds'[i]? = some d → vs[i]? = some v → d = .gone ∨ VR K F' O' H' (.inl i) v d
  fo : ∀ a, F' a → O' a = none
  oh : ∀ a w, O' a = some w → ∃ o, H' a = some o ∧ ¬ Stl o
  fh : ∀ a, F' a → H' a ≠ none
  fr : ∀ a o, H a = some o → O0 a = none → H' a = some o
  mi : ∀ a w, O' a = some w → O0 a ≠ none ∨ H a = none
  f0 : ∀ a, F0 a → F' a
  f1 : ∀ a, F' a → F0 a ∨ H a = none ∨ O0 a ≠ none
def spV (K : PySem.W.Frag) (mg : Str → Option Value) (lk : List Nat) (n : Nat) (S : VSp) : Sp := fun vs H Q E => vs.length = n ∧ ∃ F0 O0 ds Q0 E0, Pre K F0 O0 ds vs H ∧ S ds Q0 E0 ∧
  (∀ r ds' v H' F' O', Q0 r ds' → Post K F0 O0 vs H lk ds' H' F' O' → VR K F' O' H' (.inr 0) v r → Q v H') ∧
  (∀ x ds' cls d H' F' O', E0 x ds' → Post K F0 O0 vs H lk ds' H' F' O' → XnR K mg F' H' x cls d → E cls d H')
/-- the promise of a def where no repr is under way -/
structure FnG (P : Program) (w : World) (K : PySem.W.Frag) (mg : Str → Option Value) (base : Heap) (CX : CXT) (k : Nat) (f : Addr) (fd : FuncData) (ps : List Str) (sp : Sp) : Prop where
  len : ∀ vs H Q E, sp vs H Q E → vs.length = ps.length
  run : ∀ (A : Around) (outer : List Env) (s : Shared) (H : Hp) (args : Args) (us : List Value) (vs : List V) (Q : VK) (E : XK), Room k A → A.guards = some [] → Env0 P w K mg base A outer s H → BindsTo s fd args (ps.zip us) → Vals vs us → sp vs H Q E →
    codeAny (model P w) A (.call (.ref f) args) (CR CX outer P w H s Q E) s
section
variable {X : Cx} {CX : CXT} {k : Nat} {f : Addr} {fd : FuncData} {ps : List Str} {sp : Sp} {E : XK} {x : Str} {p pos : Pos} {e : Expr} {es : List Expr} {t : TA}
theorem run_fnG {pins : List (Addr × Obj)} {σ : L2.St} {H : Hp} {s : Shared} {Q : VK} {us : List Value} {vs : List V} (F : FnG X.prog X.w X.K X.mg X.base CX k f fd ps sp) (hr : Room k X.A) (hgd : X.A.guards = some []) (hb : Binds X.K fd ps []) (hx : Passes CX X E)
    (I : Inv X pins σ H s) (r : Vals vs us) (h : sp vs H Q E) : wpAny (model X.prog X.w) X.A (call (.ref f) us) (EP X pins σ Q) X.xe s := by
  have hl : us.length = ps.length := by rw [← r.length]; exact F.len _ _ _ _ h
  have hb' := hb s us I.kIn (by rw [List.append_nil]; exact hl)
  rw [List.append_nil] at hb'
  refine wpAny_call (codeAny_mono (F.run X.A X.stack s H ⟨us, []⟩ us vs Q E hr hgd I.env0 hb' r h) fun r s' hq => ?_)
  match r, hq with
  | .error e, hq => exact hx pins σ H s e s' I hq
  | .ok (.ret u), hq => exact I.after hq
  | .ok .next, hq => exact False.elim hq
  | .ok .brk, hq => exact False.elim hq
  | .ok .cont, hq => exact False.elim hq
def tCallG (sp : Sp) (E : XK) (t : TA) : TE := fun σ H Q => t σ H fun vs H1 => sp vs H1 Q E
theorem pe_callG (F : FnG X.prog X.w X.K X.mg X.base CX k f fd ps sp) (hr : Room k X.A) (hgd : X.A.guards = some []) (hg : Gl X x) (hm : X.mg x = some (.ref f)) (hk : PySem.W.keepIn X.K (.ref f) = true) (hb : Binds X.K fd ps []) (hx : Passes CX X E)
    (ha : PA X (e :: es) t) (hdb : (x == ("__debug__" : Str)) = false := by decide) (he : starEach (e :: es) X.env = (false, eval e X.env) :: starEach es X.env := by rfl) (hpl : (backTo pos (starEach es X.env)).any (·.1) = false := by rfl) :
    PE X (.Call (.Name x p) (e :: es) [] pos) (tCallG sp E t) := by
  refine ⟨fun pins s σ H Q I h => ?_⟩
  refine wpAny_Call_Name_kw (ld_glob I hg hm ?_ hdb)
  refine PySem.W.callWith_K (h₀ := X.base) I.ok.mod.kin hk (thn (ha.run pos pins s σ H _ I h) fun us s1 ⟨vs, H1, I1, r, q⟩ => ⟨I1.kIn, ?_⟩) he hpl
  exact run_fnG F hr hgd hb hx I1 r q
end
/-- the def x of the module keeps S; CX: what it lets out -/
structure Def (P : Program) (w : World) (K : PySem.W.Frag) (mg : Str → Option Value) (base : Heap) (CX : CXT) (k : Nat) (x : Str) (lk : List Nat) (n : Nat) (S : VSp) : Prop where
  ex : ∃ f fd ps, mg x = some (.ref f) ∧ FnG P w K mg base CX k f fd ps (spV K mg lk n S) ∧ Binds K fd ps [] ∧ PySem.W.keepIn K (.ref f) = true

/-! ### the caller's side -/
def isB (i : Nat) : Vl → Bool
  | .bor j => i == j
  | _ => false
/-- what stands behind an alias -/
def res (st : List Vl) : Vl → Vl
  | .bor i => (st[i]?).getD .gone
  | d => d
/-- the aliases' slots behind a call -/
def upds (ds' : List Vl) : Nat → List Vl → List Vl → List Vl
  | _, [], st => st
  | j, .bor i :: ds, st => upds ds' (j + 1) ds (st.set i ((ds'[j]?).getD .gone))
  | j, _ :: ds, st => upds ds' (j + 1) ds st
/-- aliases stand only where the def gives back, each once -/
def okB (lk : List Nat) : Nat → List Vl → Bool
  | _, [] => true
  | j, .bor i :: ds => lk.contains j && !(ds.any (isB i)) && okB lk (j + 1) ds
  | j, _ :: ds => okB lk (j + 1) ds
theorem upds_len (ds' : List Vl) : ∀ (ds : List Vl) (j : Nat) (st : List Vl), (upds ds' j ds st).length = st.length
  | [], _, _ => rfl
  | .bor i :: ds, j, st => by rw [upds, upds_len ds' ds, List.length_set]
  | .fr _ :: ds, j, st => upds_len ds' ds _ _
  | .ow _ :: ds, j, st => upds_len ds' ds _ _
  | .dk _ :: ds, j, st => upds_len ds' ds _ _
  | .cst _ :: ds, j, st => upds_len ds' ds _ _
  | .scr _ :: ds, j, st => upds_len ds' ds _ _
  | .exn _ :: ds, j, st => upds_len ds' ds _ _
  | .un _ :: ds, j, st => upds_len ds' ds _ _
  | .gone :: ds, j, st => upds_len ds' ds _ _
theorem upds_out (ds' : List Vl) {i : Nat} : ∀ (ds : List Vl) (j : Nat) (st : List Vl), ds.any (isB i) = false → (upds ds' j ds st)[i]? = st[i]?
  | [], _, _, _ => rfl
  | .bor k :: ds, j, st, h => by
    rw [List.any_cons, Bool.or_eq_false_iff] at h
    rw [upds, upds_out ds' ds _ _ h.2, List.getElem?_set_ne]
    have := h.1
    intro e
    subst e
    simp [isB] at this
  | .fr _ :: ds, j, st, h => upds_out ds' ds _ _ (by simpa [isB] using h)
  | .ow _ :: ds, j, st, h => upds_out ds' ds _ _ (by simpa [isB] using h)
  | .dk _ :: ds, j, st, h => upds_out ds' ds _ _ (by simpa [isB] using h)
  | .cst _ :: ds, j, st, h => upds_out ds' ds _ _ (by simpa [isB] using h)
  | .scr _ :: ds, j, st, h => upds_out ds' ds _ _ (by simpa [isB] using h)
  | .exn _ :: ds, j, st, h => upds_out ds' ds _ _ (by simpa [isB] using h)
  | .un _ :: ds, j, st, h => upds_out ds' ds _ _ (by simpa [isB] using h)
  | .gone :: ds, j, st, h => upds_out ds' ds _ _ (by simpa [isB] using h)
theorem upds_in (ds' : List Vl) {lk : List Nat} {i : Nat} : ∀ (ds : List Vl) (j : Nat) (st : List Vl), okB lk j ds = true → i < st.length → ds.any (isB i) = true → ∃ m, ds[m]? = some (.bor i) ∧ (j + m) ∈ lk ∧ (upds ds' j ds st)[i]? = some ((ds'[j + m]?).getD .gone)
  | [], _, _, _, _, h => by simp at h
  | .bor k :: ds, j, st, ok, hi, h => by
    rw [okB, Bool.and_eq_true, Bool.and_eq_true] at ok
    by_cases e : i = k
    · subst e
      refine ⟨0, rfl, by simpa using ok.1.1, ?_⟩
      rw [upds, upds_out ds' ds _ _ (by simpa using ok.1.2), List.getElem?_set_self hi]
      rfl
    · rw [List.any_cons] at h
      have h2 : ds.any (isB i) = true := by
        have : isB i (.bor k) = false := by simp [isB, e]
        rw [this, Bool.false_or] at h; exact h
      obtain ⟨m, e1, e2, e3⟩ := upds_in ds' ds (j + 1) (st.set k ((ds'[j]?).getD .gone)) ok.2 (by rw [List.length_set]; exact hi) h2
      exact ⟨m + 1, e1, by rw [show j + (m + 1) = j + 1 + m by omega]; exact e2, by rw [show j + (m + 1) = j + 1 + m by omega]; exact e3⟩
  | .fr _ :: ds, j, st, ok, hi, h => by
    obtain ⟨m, e1, e2, e3⟩ := upds_in ds' ds (j + 1) st ok hi (by simpa [isB] using h)
    exact ⟨m + 1, e1, by rw [show j + (m + 1) = j + 1 + m by omega]; exact e2, by rw [show j + (m + 1) = j + 1 + m by omega]; exact e3⟩
  | .ow _ :: ds, j, st, ok, hi, h => by
    obtain ⟨m, e1, e2, e3⟩ := upds_in ds' ds (j + 1) st ok hi (by simpa [isB] using h)
    exact ⟨m + 1, e1, by rw [show j + (m + 1) = j + 1 + m by omega]; exact e2, by rw [show j + (m + 1) = j + 1 + m by omega]; exact e3⟩
  | .dk _ :: ds, j, st, ok, hi, h => by
    obtain ⟨m, e1, e2, e3⟩ := upds_in ds' ds (j + 1) st ok hi (by simpa [isB] using h)
    exact ⟨m + 1, e1, by rw [show j + (m + 1) = j + 1 + m by omega]; exact e2, by rw [show j + (m + 1) = j + 1 + m by omega]; exact e3⟩
  | .cst _ :: ds, j, st, ok, hi, h => by
    obtain ⟨m, e1, e2, e3⟩ := upds_in ds' ds (j + 1) st ok hi (by simpa [isB] using h)
    exact ⟨m + 1, e1, by rw [show j + (m + 1) = j + 1 + m by omega]; exact e2, by rw [show j + (m + 1) = j + 1 + m by omega]; exact e3⟩
  | .scr _ :: ds, j, st, ok, hi, h => by
    obtain ⟨m, e1, e2, e3⟩ := upds_in ds' ds (j + 1) st ok hi (by simpa [isB] using h)
    exact ⟨m + 1, e1, by rw [show j + (m + 1) = j + 1 + m by omega]; exact e2, by rw [show j + (m + 1) = j + 1 + m by omega]; exact e3⟩
  | .exn _ :: ds, j, st, ok, hi, h => by
    obtain ⟨m, e1, e2, e3⟩ := upds_in ds' ds (j + 1) st ok hi (by simpa [isB] using h)
    exact ⟨m + 1, e1, by rw [show j + (m + 1) = j + 1 + m by omega]; exact e2, by rw [show j + (m + 1) = j + 1 + m by omega]; exact e3⟩
  | .un _ :: ds, j, st, ok, hi, h => by
    obtain ⟨m, e1, e2, e3⟩ := upds_in ds' ds (j + 1) st ok hi (by simpa [isB] using h)
    exact ⟨m + 1, e1, by rw [show j + (m + 1) = j + 1 + m by omega]; exact e2, by rw [show j + (m + 1) = j + 1 + m by omega]; exact e3⟩
  | .gone :: ds, j, st, ok, hi, h => by
    obtain ⟨m, e1, e2, e3⟩ := upds_in ds' ds (j + 1) st ok hi (by simpa [isB] using h)
    exact ⟨m + 1, e1, by rw [show j + (m + 1) = j + 1 + m by omega]; exact e2, by rw [show j + (m + 1) = j + 1 + m by omega]; exact e3⟩

section
variable {K : PySem.W.Frag} {B : Ba} {lv : List (Nat × V)} {st tm : List Vl} {σ : L2.St} {tv : List V} {H H' : Hp} {F F' : Addr → Prop} {O O' : Addr → Option Ow} {v : V} {d : Vl} {a p : Addr}
/-- the j-th of the temps that were laid last -/
theorem RelX.argAt : ∀ {ds : List Vl} {vs : List V} {tm : List Vl} {tv : List V} {j : Nat} {d : Vl} {v : V}, vs.length = ds.length → RelX K B lv st (ds.reverse ++ tm) σ (vs.reverse ++ tv) H F O → ds[j]? = some d → vs[j]? = some v →
    (∃ i, d = .bor i ∧ σ[i]? = some (some v)) ∨ VR K F O H (.inr (tm.length + j)) v d
  | [], [], _, _, _, _, _, _, _, e, _ => by simp at e
  | x :: ds, u :: vs, tm, tv, j, d, v, hl, R, e1, e2 => by
    rw [List.reverse_cons, List.reverse_cons, List.append_assoc, List.append_assoc] at R
    cases j with
    | zero =>
      simp at e1 e2
      subst e1 e2
      have : ∀ {ds : List Vl} {vs : List V} {tm : List Vl} {tv : List V}, vs.length = ds.length → RelX K B lv st (ds ++ tm) σ (vs ++ tv) H F O → RelX K B lv st tm σ tv H F O := by
        intro ds
        induction ds with
        | nil => intro vs tm tv h R; cases vs with
          | nil => exact R
          | cons _ _ => cases h
        | cons y ds ih => intro vs tm tv h R; cases vs with
          | nil => cases h
          | cons z vs => exact ih (Nat.succ.inj h) R.pop
      have R' : RelX K B lv st (x :: tm) σ (u :: tv) H F O := this (by simp only [List.length_reverse]; exact Nat.succ.inj hl) R
      exact R'.tp.1
    | succ j =>
      have := RelX.argAt (j := j) (Nat.succ.inj hl) R (by simpa using e1) (by simpa using e2)
      rw [List.length_append, List.length_singleton] at this
      rw [show tm.length + (j + 1) = 1 + tm.length + j by omega]
      exact this
  | [], _ :: _, _, _, _, _, _, h, _, _, _ => by cases h
  | _ :: _, [], _, _, _, _, _, h, _, _, _ => by cases h
theorem RelX.popAll {ds : List Vl} : ∀ {vs : List V}, vs.length = ds.length → RelX K B lv st (ds ++ tm) σ (vs ++ tv) H F O → RelX K B lv st tm σ tv H F O := by
  induction ds with
  | nil => intro vs h R; cases vs with
    | nil => exact R
    | cons _ _ => cases h
  | cons y ds ih => intro vs h R; cases vs with
    | nil => cases h
    | cons z vs => exact ih (Nat.succ.inj h) R.pop
/-- which argument owns an address -/
def argO (ds : List Vl) (n : Nat) (O : Addr → Option Ow) : Addr → Option Nat := fun a => match O a with
  | some (.inr m) => if n ≤ m ∧ m < n + ds.length then some (m - n) else none
  | some (.inl i) => if ds.any (isB i) = true then ds.findIdx? (isB i) else none
  | none => none
theorem argO_some {ds : List Vl} {n i : Nat} (h : argO ds n O a = some i) : ∃ w, O a = some w := by
  unfold argO at h
  cases e : O a with
  | none => rw [e] at h; cases h
  | some w => exact ⟨w, rfl⟩
theorem okB_first {lk : List Nat} {i : Nat} : ∀ {ds : List Vl} {j m : Nat}, okB lk j ds = true → ds[m]? = some (.bor i) → ds.findIdx? (isB i) = some m
  | [], _, _, _, e => by simp at e
  | d :: ds, j, 0, ok, e => by
    simp at e; subst e
    rw [List.findIdx?_cons, show isB i (.bor i) = true by simp [isB]]
    rfl
  | d :: ds, j, m + 1, ok, e => by
    have e' : ds[m]? = some (.bor i) := by simpa using e
    have hin : ds.any (isB i) = true := List.any_eq_true.mpr ⟨_, List.mem_of_getElem? e', by simp [isB]⟩
    have hd : isB i d = false := by
      cases d with
      | bor k =>
        rw [okB, Bool.and_eq_true, Bool.and_eq_true] at ok
        by_cases q : i = k
        · subst q
          have := ok.1.2
          rw [hin] at this
          cases this
        · simp [isB, q]
      | _ => rfl
    have ok' : okB lk (j + 1) ds = true := by
      cases d with
      | bor k => rw [okB, Bool.and_eq_true] at ok; exact ok.2
      | _ => exact ok
    rw [List.findIdx?_cons, hd, okB_first ok' e']
    rfl
theorem RelX.pre {ds : List Vl} {vs : List V} {lk : List Nat} (hl : vs.length = ds.length) (R : RelX K B lv st (ds.reverse ++ tm) σ (vs.reverse ++ tv) H F O) (ok : okB lk 0 ds = true) : Pre K F (argO ds tm.length O) (ds.map (res st)) vs H where
  len := by rw [List.length_map]; exact hl.symm
  av := fun i d v e1 e2 => by
    rw [List.getElem?_map] at e1
    cases e : ds[i]? with
    | none => rw [e] at e1; cases e1
    | some x =>
      rw [e] at e1
      have hd : res st x = d := Option.some.inj e1
      have hi : i < ds.length := (List.getElem?_eq_some_iff.mp e).1
      have kp : Kp F H H := fun _ _ e _ => e
      rcases R.argAt hl e e2 with ⟨j, ej, h1⟩ | h
      · subst ej
        have hd' : (st[j]?).getD .gone = d := hd
        cases q : st[j]? with
        | none => rw [q] at hd'; exact .inl hd'.symm
        | some y =>
          rw [q] at hd'
          have hy : y = d := hd'
          subst hy
          rcases R.sl j y q with z | ⟨u, h2, h3⟩
          · exact .inl z
          · rw [h1] at h2; cases h2
            refine .inr (h3.keep (fun _ f => f) kp (fun a z => ?_) (fun _ _ _ z => z))
            have hin : ds.any (isB j) = true := List.any_eq_true.mpr ⟨_, List.mem_of_getElem? e, by simp [isB]⟩
            show (argO ds tm.length O a).map Sum.inl = _
            unfold argO
            rw [z]
            simp only [hin, if_true, okB_first ok e]
            rfl
      · have hx : res st x = x := by
          cases x with
          | bor _ => exact h.elim
          | _ => rfl
        rw [hx] at hd
        subst hd
        refine .inr (h.keep (fun _ f => f) kp (fun a z => ?_) (fun _ _ _ z => z))
        show (argO ds tm.length O a).map Sum.inl = _
        unfold argO
        rw [z]
        simp only
        rw [if_pos ⟨by omega, by omega⟩]
        show some (Sum.inl (tm.length + i - tm.length)) = _
        rw [Nat.add_sub_cancel_left]
  fo := fun a f => by unfold argO; rw [R.fo a f]
  fh := R.fh
  oh := fun a i h => by
    obtain ⟨w, e⟩ := argO_some h
    exact R.oh a w e
/-- behind a call -/
theorem RelX.post {ds ds' : List Vl} {vs : List V} {lk : List Nat} (hl : vs.length = ds.length) (R : RelX K B lv st (ds.reverse ++ tm) σ (vs.reverse ++ tv) H F O) (ok : okB lk 0 ds = true) (q : Post K F (argO ds tm.length O) vs H lk ds' H' F' O') :
    RelX K B lv (upds ds' 0 ds st) tm σ tv H' F' (fun a => match O' a with
      | some (.inr _) => some (.inr tm.length)
      | some (.inl j) => (match ds[j]? with | some (.bor i) => some (.inl i) | _ => some (.inr tm.length))
      | none => if argO ds tm.length O a = none then O a else none) := by
  have Rp := R.popAll (by simp only [List.length_reverse]; exact hl)
  have kp : Kp F H H' := fun a o e h => by
    refine q.fr a o e ?_
    rcases h with f | s
    · unfold argO; rw [R.fo a f]
    · cases z : argO ds tm.length O a with
      | none => rfl
      | some i =>
        obtain ⟨w, ew⟩ := argO_some z
        obtain ⟨o', e', n⟩ := R.oh a w ew
        rw [e] at e'; cases e'
        exact absurd s n
  -- an address that no argument owns: its owner stays
  have stay : ∀ a w, O a = some w → argO ds tm.length O a = none → (match O' a with
      | some (.inr _) => some (Sum.inr tm.length)
      | some (.inl j) => (match ds[j]? with | some (.bor i) => some (Sum.inl i) | _ => some (Sum.inr tm.length))
      | none => if argO ds tm.length O a = none then O a else none) = some w := fun a w e n => by
    have h : O' a = none := by
      cases z : O' a with
      | none => rfl
      | some w' =>
        rcases q.mi a w' z with y | y
        · exact absurd n y
        · exact (Rp.oh' e y).elim
    rw [h]
    simp only
    rw [if_pos n, e]
  have slotN : ∀ i a, ds.any (isB i) = false → O a = some (.inl i) → argO ds tm.length O a = none := fun i a h e => by
    unfold argO
    rw [e]
    simp only
    rw [if_neg (by rw [h]; exact Bool.false_ne_true)]
  have tempN : ∀ n a, n < tm.length → O a = some (.inr n) → argO ds tm.length O a = none := fun n a h e => by
    unfold argO
    rw [e]
    simp only
    rw [if_neg (by omega)]
  refine ⟨by rw [upds_len]; exact R.len, fun i d e => ?_, Rp.tp.keep q.f0 kp σ (fun a n hn e => stay a _ e (tempN n a hn e)) (fun a o n hn e z => q.fr a o z (tempN n a hn e)) (fun _ _ _ h => h), fun a f => ?_, fun a w e => ?_, q.fh, fun a o e n => ?_, fun a w e => ?_, fun a f => q.f0 a (R.f0 a f), fun a f => ?_, R.lk⟩
  · by_cases hb : ds.any (isB i) = true
    · have hi : i < st.length := by
        by_cases z : i < st.length
        · exact z
        · rw [List.getElem?_eq_none (by rw [upds_len]; exact Nat.not_lt.mp z)] at e; cases e
      obtain ⟨m, e1, e2, e3⟩ := upds_in ds' ds 0 st ok hi hb
      rw [Nat.zero_add] at e2 e3
      rw [e3] at e
      cases e
      cases z : ds'[m]? with
      | none => exact .inl rfl
      | some d =>
        have hm : m < ds.length := (List.getElem?_eq_some_iff.mp e1).1
        obtain ⟨u, hu⟩ : ∃ u, vs[m]? = some u := ⟨_, List.getElem?_eq_getElem (by omega)⟩
        rcases q.av m e2 d u z hu with y | y
        · exact .inl y
        · rcases R.argAt hl e1 hu with ⟨j, ej, h1⟩ | h
          · cases ej
            refine .inr ⟨u, h1, y.keep (fun _ f => f) (fun _ _ e _ => e) (fun a ea => ?_) (fun _ _ _ e => e)⟩
            rw [ea]
            simp only [e1]
          · exact h.elim
    · have hb' : ds.any (isB i) = false := by simpa using hb
      rw [upds_out ds' ds 0 st hb'] at e
      rcases R.sl i d e with z | ⟨u, h1, h2⟩
      · exact .inl z
      · exact .inr ⟨u, h1, h2.keep q.f0 kp (fun a ea => stay a _ ea (slotN i a hb' ea)) (fun a o ea z => q.fr a o z (slotN i a hb' ea))⟩
  · rw [q.fo a f]
    simp only
    by_cases n : argO ds tm.length O a = none
    · rw [if_pos n]
      rcases q.f1 a f with z | z | z
      · exact R.fo a z
      · cases y : O a with
        | none => rfl
        | some w => exact (R.oh' y z).elim
      · exact absurd n z
    · rw [if_neg n]
  · cases z : O' a with
    | some w' => exact q.oh a w' z
    | none =>
      rw [z] at e
      simp only at e
      by_cases n : argO ds tm.length O a = none
      · rw [if_pos n] at e
        obtain ⟨o, e1, e2⟩ := R.oh a w e
        exact ⟨o, q.fr a o e1 n, e2⟩
      · rw [if_neg n] at e; cases e
  · have h := R.fr a o e n
    refine q.fr a o h ?_
    cases z : argO ds tm.length O a with
    | none => rfl
    | some i =>
      obtain ⟨w, ew⟩ := argO_some z
      rcases R.mi a w ew with y | y
      · exact absurd y n
      · rw [e] at y; cases y
  · have fin : argO ds tm.length O a ≠ none ∨ H a = none → B.A0 a ∨ B.H0 a = none := fun h => by
      rcases h with h | h
      · cases z : argO ds tm.length O a with
        | none => exact absurd z h
        | some i =>
          obtain ⟨w', ew⟩ := argO_some z
          exact R.mi a w' ew
      · by_cases y : B.A0 a
        · exact .inl y
        · cases z : B.H0 a with
          | none => exact .inr rfl
          | some o => rw [R.fr a o z y] at h; cases h
    cases z : O' a with
    | some w' => exact fin (q.mi a w' z)
    | none =>
      rw [z] at e
      simp only at e
      by_cases n : argO ds tm.length O a = none
      · rw [if_pos n] at e; exact R.mi a w e
      · rw [if_neg n] at e; cases e
  · rcases q.f1 a f with z | z | z
    · exact R.f1 a z
    · by_cases y : B.A0 a
      · exact .inr (.inr y)
      · cases x : B.H0 a with
        | none => exact .inr (.inl rfl)
        | some o => rw [R.fr a o x y] at z; cases z
    · cases y : argO ds tm.length O a with
      | none => exact absurd y z
      | some i =>
        obtain ⟨w', ew⟩ := argO_some y
        rcases R.mi a w' ew with x | x
        · exact .inr (.inr x)
        · exact .inr (.inl x)
end

/-- f(e, ..): S over the arguments (what aliases stand for), the slots behind -/
def cCall (lk : List Nat) (S : VSp) (t : DTA) : DT := fun st Q => t st fun ds st1 => okB lk 0 ds = true ∧ S (ds.map (res st1)) (fun r ds' => Q r (upds ds' 0 ds st1)) (fun _ _ => False)
section
variable {X : Cx} {B : Ba} {lk lk' : List Nat} {e : Expr} {es : List Expr} {t : DTA} {p pos : Pos} {x : Str} {j k n : Nat} {S : VSp}
theorem call_weak {ps : List Str} {f : Addr} {fd : FuncData} {CX : CXT} (F : FnG X.prog X.w X.K X.mg X.base CX k f fd ps (spV X.K X.mg lk' n S)) (h0 : ∀ ds Q E, S ds Q E → ds.length = n) {σ : L2.St} {H : Hp} {Q : VK} (h : LE X.K B lk (cCall lk' S t) σ H Q) :
    tCallG (spV X.K X.mg lk' n S) E0 (LA X.K B lk t) σ H Q := by
  obtain ⟨lv, st, tm, tv, Q0, L, R, h, k⟩ := h
  refine ⟨lv, st, tm, tv, _, L, R, h, fun ds st1 vs H1 q hl R1 => ?_⟩
  obtain ⟨ok, hS⟩ := q
  obtain ⟨F, O, R1⟩ := R1
  refine ⟨by rw [hl, ← List.length_map (f := res st1)]; exact h0 _ _ _ hS, F, argO ds tm.length O, ds.map (res st1), _, fun _ _ => False, R1.pre hl ok, hS, fun r ds' v H' F' O' q1 P r1 => ?_, fun _ _ _ _ _ _ _ z => z.elim⟩
  exact k _ _ _ _ q1 ⟨F', _, (R1.post hl ok P).push (r1.keep (fun _ f => f) (fun _ _ e _ => e) (fun a ea => by rw [ea]) (fun _ _ _ e => e))⟩
theorem de_call (c : Def X.prog X.w X.K X.mg X.base CX0 k x lk' n S) (h0 : ∀ ds Q E, S ds Q E → ds.length = n) (hr : Room j X.A) (hgd : X.A.guards = some []) (hk : k ≤ j) (hg : Gl X x) (ha : DA X B lk (e :: es) t)
    (hdb : (x == ("__debug__" : Str)) = false := by decide) (he : starEach (e :: es) X.env = (false, eval e X.env) :: starEach es X.env := by rfl) (hpl : (backTo pos (starEach es X.env)).any (·.1) = false := by rfl) :
    DE X B lk (.Call (.Name x p) (e :: es) [] pos) (cCall lk' S t) := by
  obtain ⟨f, fd, ps, hm, F, b, kp⟩ := c.ex
  exact PE.weak (pe_callG F (hr.mono hk) hgd hg hm kp b pass0 ha hdb he hpl) fun _ _ _ h => call_weak F h0 h
end
end DL

/-! The data layer, part 5: statements, loops, comprehensions, a def's body. -/
namespace DL
open PySem PySem.Spec PyProof.Rows L2

structure DEnds where
  nx : List Vl → Prop
  rt : Vl → List Vl → Prop
  bk : List Vl → Prop := fun _ => False
  ct : List Vl → Prop := fun _ => False
abbrev DTS := DEnds → List Vl → Prop
/-- no temp is an alias but of a locked slot -/
def Bl (tm : List Vl) (lk : List Nat) : Prop := ∀ i, Vl.bor i ∈ tm → i ∈ lk
structure EndsOk (K : PySem.W.Frag) (B : Ba) (lv : List (Nat × V)) (tm : List Vl) (tv : List V) (D0 : DEnds) (D : Ends) : Prop where
  nx : ∀ st' σ' H', D0.nx st' → Rel K B lv st' tm σ' tv H' → D.nx σ' H'
  rt : ∀ d st' v σ' H', D0.rt d st' → Rel K B lv st' (d :: tm) σ' (v :: tv) H' → D.rt v H'
  bk : ∀ st' σ' H', D0.bk st' → Rel K B lv st' tm σ' tv H' → D.bk σ' H'
  ct : ∀ st' σ' H', D0.ct st' → Rel K B lv st' tm σ' tv H' → D.ct σ' H'
def LS (K : PySem.W.Frag) (B : Ba) (lk : List Nat) (t : DTS) : TS := fun D σ H => ∃ lv st tm tv D0, Lk B lv lk ∧ Bl tm lk ∧ Rel K B lv st tm σ tv H ∧ t D0 st ∧ EndsOk K B lv tm tv D0 D
abbrev DS (X : Cx) (B : Ba) (lk : List Nat) (s : Stmt) (t : DTS) : Prop := PS X s (LS X.K B lk t)
abbrev DSs (X : Cx) (B : Ba) (lk : List Nat) (s : List Stmt) (t : DTS) : Prop := PSs X s (LS X.K B lk t)

section
variable {X : Cx} {B : Ba} {lk : List Nat} {a b e : Expr} {s : Stmt} {rest : List Stmt} {ta tb te : DT} {t u : DTS} {pos : Pos}
def cNext : DTS := fun D st => D.nx st
def cSeq (t u : DTS) : DTS := fun D st => t { D with nx := u D } st
theorem dss_nil : DSs X B lk [] cNext := PSs.weak pss_nil fun D σ H ⟨lv, st, tm, tv, D0, L, Bt, R, h, k⟩ => k.nx _ _ _ h R
theorem dss_cons (h1 : DS X B lk s t) (h2 : DSs X B lk rest u) : DSs X B lk (s :: rest) (cSeq t u) := PSs.weak (pss_cons h1 h2) fun D σ H ⟨lv, st, tm, tv, D0, L, Bt, R, h, k⟩ =>
  ⟨lv, st, tm, tv, _, L, Bt, R, h, ⟨fun st' σ' H' q R' => ⟨lv, st', tm, tv, D0, L, Bt, R', q, k⟩, k.rt, k.bk, k.ct⟩⟩
theorem dss_one (h1 : DS X B lk s t) : DSs X B lk [s] t := pss_one h1
def cDrop (te : DT) : DTS := fun D st => te st fun _ st' => D.nx st'
theorem ds_expr (he : DE X B lk e te) (hs : swapsWith e none pos.line X.env = pure false := by rfl) : DS X B lk (.Expr e pos) (cDrop te) := PS.weak (ps_expr he hs) fun D σ H ⟨lv, st, tm, tv, D0, L, Bt, R, h, k⟩ =>
  ⟨lv, st, tm, tv, _, L, R, h, fun d st' v H' q R' => k.nx _ _ _ q R'.pop⟩
/-- what a def hands back is no alias -/
def cRet (te : DT) : DTS := fun D st => te st fun d st' => (∀ i, d ≠ .bor i) ∧ D.rt d st'
theorem ds_ret (he : DE X B lk e te) : DS X B lk (.Return (some e) pos) (cRet te) := PS.weak (ps_ret he) fun D σ H ⟨lv, st, tm, tv, D0, L, Bt, R, h, k⟩ =>
  ⟨lv, st, tm, tv, _, L, R, h, fun d st' v H' q R' => k.rt _ _ _ _ _ q.2 R'⟩
def cIfS (c : DTT) (t u : DTS) : DTS := fun D st => c st fun b st1 => if b = true then t D st1 else u D st1
theorem ds_if {c : Expr} {as bs : List Stmt} {tc : DTT} (hc : DC X B lk c tc) (ha : DSs X B lk as t) (hb : DSs X B lk bs u) : DS X B lk (.If c as bs pos) (cIfS tc t u) := PS.weak (ps_if hc ha hb) fun D σ H ⟨lv, st, tm, tv, D0, L, Bt, R, h, k⟩ => by
  refine ⟨lv, st, tm, tv, _, L, R, h, fun c st' H' q R' => ?_⟩
  cases c with
  | true => rw [if_pos rfl] at q ⊢; exact ⟨lv, st', tm, tv, D0, L, Bt, R', q, k⟩
  | false => rw [if_neg Bool.false_ne_true] at q ⊢; exact ⟨lv, st', tm, tv, D0, L, Bt, R', q, k⟩

/-! ### targets -/
abbrev DTG := Vl → List Vl → (List Vl → Prop) → Prop
abbrev DTGs := List PyData → List Vl → (List Vl → Prop) → Prop
/-- only the slots ws are others -/
def Fs (ws : List Nat) (σ σ' : L2.St) : Prop := σ'.length = σ.length ∧ ∀ i, i ∉ ws → σ'[i]? = σ[i]?
def LG (K : PySem.W.Frag) (B : Ba) (lk ws : List Nat) (g : DTG) : TG := fun v σ H Q => ∃ lv st d tm tv Q0, Lk B lv lk ∧ Bl tm lk ∧ Rel K B lv st (d :: tm) σ (v :: tv) H ∧ g d st Q0 ∧ ∀ st' σ' H', Q0 st' → Fs ws σ σ' → Rel K B lv st' tm σ' tv H' → Q σ' H'
def LGs (K : PySem.W.Frag) (B : Ba) (lk ws : List Nat) (g : DTGs) : TGs := fun vs σ H Q => ∃ lv st ds tm tv Q0, Lk B lv lk ∧ Bl tm lk ∧ vs.length = ds.length ∧ Rel K B lv st (ds.map Vl.fr ++ tm) σ (vs ++ tv) H ∧ g ds st Q0 ∧ ∀ st' σ' H', Q0 st' → Fs ws σ σ' → Rel K B lv st' tm σ' tv H' → Q σ' H'
abbrev DG (X : Cx) (B : Ba) (lk ws : List Nat) (e : Expr) (g : DTG) : Prop := PG X e (LG X.K B lk ws g)
abbrev DGs (X : Cx) (B : Ba) (lk ws : List Nat) (es : List Expr) (g : DTGs) : Prop := PGs X es (LGs X.K B lk ws g)
/-- a name; what comes is no alias -/
def gNm (i : Nat) : DTG := fun d st Q => (∀ j, d ≠ .bor j) ∧ i < st.length ∧ Q (st.set i d)
theorem PGs.weak {X : Cx} {e : List Expr} {t t' : TGs} (h : PGs X e t) (i : ∀ v σ H Q, t' v σ H Q → t v σ H Q) : PGs X e t' := ⟨fun pins s σ H v u Q I r q => h.run pins s σ H v u Q I r (i v σ H Q q)⟩
theorem dg_name (i : Nat) {x : Str} (hN : X.N.Nodup) (hl : lk.contains i = false) (hi : X.N[i]? = some x) (hx : Loc X.env.scope x) (hf : X.fn x = true ∨ X.env.scope.names.lookup x = some .local := by first | exact .inl rfl | exact .inr rfl | assumption) : DG X B lk [i] (.Name x pos) (gNm i) :=
  PG.weak (pg_name hN hi hx hf) fun v σ H Q ⟨lv, st, d, tm, tv, Q0, L, Bt, R, h, k⟩ =>
    have hn : i ∉ lk := fun z => by rw [List.contains_iff_mem.mpr z] at hl; cases hl
    k _ _ _ h.2.2 ⟨List.length_set .., fun j hj => List.getElem?_set_ne (fun e => hj (by rw [e]; exact List.mem_singleton.mpr rfl))⟩ (R.store h.1 h.2.1 (fun z => hn (Bt i z)) (fun p hp z => hn (z ▸ L.1 p hp)))
def gsNil : DTGs := fun ds st Q => ds = [] ∧ Q st
def gsCons (g : DTG) (gs : DTGs) : DTGs := fun ds st Q => match ds with
  | d :: ds => g (.fr d) st fun st' => gs ds st' Q
  | [] => False
theorem dgs_nil : DGs X B lk [] [] gsNil := PGs.weak pgs_nil fun vs σ H Q ⟨lv, st, ds, tm, tv, Q0, L, Bt, hl, R, h, k⟩ => by
  obtain ⟨rfl, h⟩ := h
  cases vs with
  | nil => exact ⟨rfl, k _ _ _ h ⟨rfl, fun _ _ => rfl⟩ R⟩
  | cons _ _ => cases hl
theorem dgs_cons {w1 w2 : List Nat} {e : Expr} {es : List Expr} {g : DTG} {gs : DTGs} (h1 : DG X B lk w1 e g) (h2 : DGs X B lk w2 es gs) (hs : (assignEach (e :: es) X.env).map (·.2) = assign e X.env :: (assignEach es X.env).map (·.2) := by rfl) : DGs X B lk (w1 ++ w2) (e :: es) (gsCons g gs) :=
  PGs.weak (pgs_cons h1 h2 hs) fun vs σ H Q ⟨lv, st, ds, tm, tv, Q0, L, Bt, hl, R, h, k⟩ => by
    cases ds with
    | nil => exact h.elim
    | cons d ds =>
      cases vs with
      | nil => cases hl
      | cons v vs =>
        refine ⟨v, vs, rfl, lv, st, .fr d, ds.map Vl.fr ++ tm, vs ++ tv, _, L, fun i hi => ?_, R, h, fun st' σ' H' q f1 R' => ⟨lv, st', ds, tm, tv, Q0, L, Bt, Nat.succ.inj hl, R', q, fun st2 σ2 H2 q2 f2 R2 => k _ _ _ q2 ⟨f2.1.trans f1.1, fun j hj => (f2.2 j (fun z => hj (List.mem_append_right _ z))).trans (f1.2 j (fun z => hj (List.mem_append_left _ z)))⟩ R2⟩⟩
        rcases List.mem_append.mp hi with z | z
        · obtain ⟨y, _, e⟩ := List.mem_map.mp z; cases e
        · exact Bt i z
/-- (a, b, ..): a frozen tuple is unpacked -/
def gTu (n : Nat) (gs : DTGs) : DTG := fun d st Q => match d with
  | .fr (.tuple ds) => ds.length = n ∧ gs ds st Q
  | _ => False
theorem RelX.spread {K : PySem.W.Frag} {B : Ba} {lv : List (Nat × V)} {st tm : List Vl} {σ : L2.St} {tv : List V} {H : Hp} {F : Addr → Prop} {O : Addr → Option Ow} : ∀ {vs : List V} {ds : List PyData}, RpA K F H vs ds → RelX K B lv st tm σ tv H F O → RelX K B lv st (ds.map Vl.fr ++ tm) σ (vs ++ tv) H F O
  | _, _, .nil, R => R
  | _, _, .cons r q, R => (RelX.spread q R).push (d := .fr _) r
theorem dg_tup {ws : List Nat} {es : List Expr} {k : Nat} {gs : DTGs} {n : Nat} (hc : X.calm = true) (h : DGs X B lk ws es gs) (hn : (assignEach es X.env).length = n := by rfl) (hst : (assignEach es X.env).findIdx? (·.1) = none := by rfl) : DG X B lk ws (.Tuple es k pos) (gTu n gs) :=
  PG.weak (pg_tup hc h hn hst) fun v σ H Q ⟨lv, st, d, tm, tv, Q0, L, Bt, R, h, k⟩ => by
    unfold gTu at h
    split at h
    · rename_i ds
      obtain ⟨F, O, R⟩ := R
      obtain ⟨a, vs, rfl, h1, r⟩ := R.tup (ds := ds) rfl
      exact ⟨a, vs, rfl, h1, by rw [r.length]; exact h.1, lv, st, ds, tm, tv, Q0, L, Bt, r.length, ⟨F, O, RelX.spread r R.pop⟩, h.2, k⟩
    · exact h.elim
/-- target = e -/
def cAsg (te : DT) (g : DTG) : DTS := fun D st => te st fun d st' => g d st' D.nx
theorem asg_weak {ws : List Nat} {g : DTG} {D : Ends} {σ : L2.St} {H : Hp} (h : LS X.K B lk (cAsg te g) D σ H) : tAsg (LE X.K B lk te) (LG X.K B lk ws g) D σ H := by
  obtain ⟨lv, st, tm, tv, D0, L, Bt, R, h, k⟩ := h
  exact ⟨lv, st, tm, tv, _, L, R, h, fun d st' v H' q R' => ⟨lv, st', d, tm, tv, _, L, Bt, R', q, fun st2 σ2 H2 q2 _ R2 => k.nx _ _ _ q2 R2⟩⟩
theorem ds_asg {ws : List Nat} {tg : Expr} {g : DTG} (he : DE X B lk e te) (hg : DG X B lk ws tg g) (hs : swapsWithSole [tg] e pos.line X.env = pure false := by rfl) (hw : swappedStores [tg] e X.env = pure none := by rfl)
    (h1 : (assignEach [tg] X.env).map (·.2) = [assign tg X.env] := by rfl) : DS X B lk (.Assign [tg] e pos) (cAsg te g) := PS.weak (ps_asg he hg hs hw h1) fun _ _ _ h => asg_weak h
theorem ds_set (i : Nat) {x : Str} {pos' : Pos} (hN : X.N.Nodup) (hl : lk.contains i = false) (hi : X.N[i]? = some x) (hx : Loc X.env.scope x) (he : DE X B lk e te) (hs : swapsWith e (some (.Name x pos')) pos.line X.env = pure false := by rfl)
    (hf : X.fn x = true ∨ X.env.scope.names.lookup x = some .local := by first | exact .inl rfl | exact .inr rfl | assumption) : DS X B lk (.Assign [.Name x pos'] e pos) (cAsg te (gNm i)) :=
  PS.weak (ps_set hN hi hx he hs hf) fun D σ H h => by
    obtain ⟨lv, st, tm, tv, D0, L, Bt, R, h, k⟩ := h
    have hn : i ∉ lk := fun z => by rw [List.contains_iff_mem.mpr z] at hl; cases hl
    exact ⟨lv, st, tm, tv, _, L, R, h, fun d st' v H' q R' => k.nx _ _ _ q.2.2 (R'.store q.1 q.2.1 (fun z => hn (Bt i z)) (fun p hp z => hn (z ▸ L.1 p hp)))⟩
/-- a, b = e1, e2 -/
def cPar (i j : Nat) (ta : DTA) : DTS := fun D st => ta st fun ds st' => match ds with
  | [x, y] => (∀ k, x ≠ .bor k) ∧ (∀ k, y ≠ .bor k) ∧ i < st'.length ∧ j < st'.length ∧ D.nx ((st'.set j y).set i x)
  | _ => False
theorem ds_par (i j : Nat) {x y : Str} {ta : DTA} {px py pt : Pos} {kt k2 pt2} (hc : X.calm = true) (hN : X.N.Nodup) (hli : lk.contains i = false) (hlj : lk.contains j = false) (hi : X.N[i]? = some x) (hj : X.N[j]? = some y) (hij : i ≠ j)
    (hx : X.env.scope.names.lookup x = some .local) (hy : X.env.scope.names.lookup y = some .local) (ha : DA X B lk [a, b] ta)
    (hw : swappedStores [.Tuple [.Name x px, .Name y py] kt pt] (.Tuple [a, b] k2 pt2) X.env = pure (some [x, y]))
    (hs : swapsWithSole [.Tuple [.Name x px, .Name y py] kt pt] (.Tuple [a, b] k2 pt2) pos.line X.env = pure false := by rfl) :
    DS X B lk (.Assign [.Tuple [.Name x px, .Name y py] kt pt] (.Tuple [a, b] k2 pt2) pos) (cPar i j ta) :=
  PS.weak (ps_par hc hN hi hj hij hx hy ha hw hs) fun D σ H ⟨lv, st, tm, tv, D0, L, Bt, R, h, k⟩ => by
    have hn : i ∉ lk := fun z => by rw [List.contains_iff_mem.mpr z] at hli; cases hli
    have hm : j ∉ lk := fun z => by rw [List.contains_iff_mem.mpr z] at hlj; cases hlj
    refine ⟨lv, st, tm, tv, _, L, R, h, fun ds st' vs H' q hl R' => ?_⟩
    split at q
    · rename_i c d
      match vs, hl with
      | [v, w], _ =>
        obtain ⟨q1, q2, q3, q4, q5⟩ := q
        refine ⟨v, w, rfl, ?_⟩
        have R2 : Rel X.K B lv st' (d :: c :: tm) σ (w :: v :: tv) H' := R'
        have R3 := R2.store (i := j) q2 q4 (fun z => by
          rcases List.mem_cons.mp z with z | z
          · exact q1 j z.symm
          · exact hm (Bt j z)) (fun p hp z => hm (z ▸ L.1 p hp))
        have R4 := R3.store (i := i) q1 (by rw [List.length_set]; exact q3) (fun z => hn (Bt i z)) (fun p hp z => hn (z ▸ L.1 p hp))
        rw [List.set_comm _ _ hij]
        exact k.nx _ _ _ q5 R4
    · exact q.elim
end
end DL

/-! The data layer, part 6: what is walked; for, while, list comprehensions. -/
namespace DL
open PySem PySem.Spec PyProof.Rows L2

section
variable {K : PySem.W.Frag} {B : Ba} {lv : List (Nat × V)} {st tm : List Vl} {σ : L2.St} {tv : List V} {H H' : Hp} {F F' : Addr → Prop} {O O' : Addr → Option Ow} {v : V} {d : Vl} {a p : Addr}
theorem Rel.unlock {l : List (Nat × V)} (R : Rel K B (l ++ lv) st tm σ tv H) : Rel K B lv st tm σ tv H := by
  obtain ⟨F, O, R⟩ := R
  exact ⟨F, O, R.len, R.sl, R.tp, R.fo, R.oh, R.fh, R.fr, R.mi, R.f0, R.f1, fun p hp => R.lk p (List.mem_append_right _ hp)⟩
/-- the locks of some temps -/
def locks : List Vl → List V → List (Nat × V)
  | .bor i :: ds, v :: vs => (i, v) :: locks ds vs
  | _ :: ds, _ :: vs => locks ds vs
  | _, _ => []
theorem locks_in : ∀ {ds : List Vl} {vs : List V} {p : Nat × V}, p ∈ locks ds vs → Vl.bor p.1 ∈ ds
  | [], _, _, h => by simp [locks] at h
  | _ :: _, [], _, h => by simp [locks] at h
  | .bor i :: ds, v :: vs, p, h => by
    rw [locks] at h
    rcases List.mem_cons.mp h with e | h
    · subst e; exact List.mem_cons_self
    · exact List.mem_cons_of_mem _ (locks_in h)
  | .fr _ :: ds, v :: vs, p, h => List.mem_cons_of_mem _ (locks_in (ds := ds) (vs := vs) h)
  | .ow _ :: ds, v :: vs, p, h => List.mem_cons_of_mem _ (locks_in (ds := ds) (vs := vs) h)
  | .dk _ :: ds, v :: vs, p, h => List.mem_cons_of_mem _ (locks_in (ds := ds) (vs := vs) h)
  | .cst _ :: ds, v :: vs, p, h => List.mem_cons_of_mem _ (locks_in (ds := ds) (vs := vs) h)
  | .scr _ :: ds, v :: vs, p, h => List.mem_cons_of_mem _ (locks_in (ds := ds) (vs := vs) h)
  | .exn _ :: ds, v :: vs, p, h => List.mem_cons_of_mem _ (locks_in (ds := ds) (vs := vs) h)
  | .un _ :: ds, v :: vs, p, h => List.mem_cons_of_mem _ (locks_in (ds := ds) (vs := vs) h)
  | .gone :: ds, v :: vs, p, h => List.mem_cons_of_mem _ (locks_in (ds := ds) (vs := vs) h)
theorem Rel.lockAll {src : List Vl} {sv : List V} (R : Rel K B lv st (src ++ tm) σ (sv ++ tv) H) (hl : sv.length = src.length) : Rel K B (locks src sv ++ lv) st (src ++ tm) σ (sv ++ tv) H := by
  have key : ∀ (src : List Vl) (sv : List V), (∃ F O, TmR K F O H σ (src ++ tm) (sv ++ tv)) → sv.length = src.length → ∀ p ∈ locks src sv, σ[p.1]? = some (some p.2) := by
    intro src
    induction src with
    | nil => intro sv _ _ p hp; simp [locks] at hp
    | cons d src ih =>
      intro sv h hl p hp
      cases sv with
      | nil => cases hl
      | cons v sv =>
        obtain ⟨F, O, h1, h2⟩ := h
        have rest := ih sv ⟨F, O, h2⟩ (Nat.succ.inj hl)
        cases d with
        | bor i =>
          rw [locks] at hp
          rcases List.mem_cons.mp hp with e | hp
          · subst e
            rcases h1 with ⟨j, ej, h⟩ | h
            · cases ej; exact h
            · exact h.elim
          · exact rest p hp
        | _ => exact rest p hp
  obtain ⟨F, O, R⟩ := R
  refine ⟨F, O, R.len, R.sl, R.tp, R.fo, R.oh, R.fh, R.fr, R.mi, R.f0, R.f1, fun p hp => ?_⟩
  rcases List.mem_append.mp hp with hp | hp
  · exact key src sv ⟨F, O, R.tp⟩ hl p hp
  · exact R.lk p hp
/-- temps beneath the top one are dropped -/
theorem Rel.under {src : List Vl} {sv : List V} (hl : sv.length = src.length) (R : Rel K B lv st (d :: (src ++ tm)) σ (v :: (sv ++ tv)) H) : Rel K B lv st (d :: tm) σ (v :: tv) H := by
  obtain ⟨F, O, R⟩ := R
  have Rt : RelX K B lv st tm σ tv H F O := R.pop.popAll hl
  rcases R.tp.1 with ⟨i, e, h⟩ | h
  · exact ⟨F, O, Rt.len, Rt.sl, ⟨.inl ⟨i, e, h⟩, Rt.tp⟩, Rt.fo, Rt.oh, Rt.fh, Rt.fr, Rt.mi, Rt.f0, Rt.f1, Rt.lk⟩
  · rw [List.length_append] at h
    have kp : Kp F H H := fun _ _ e _ => e
    by_cases hs : src.length = 0
    · rw [hs, Nat.zero_add] at h
      exact ⟨F, O, Rt.push h⟩
    · refine ⟨F, fun a => if O a = some (.inr (src.length + tm.length)) then some (.inr tm.length) else O a, Rt.len, fun i d' e => ?_, ⟨.inr (h.keep (fun _ f => f) kp (fun a e => if_pos e) (fun _ _ _ e => e)), Rt.tp.keep (fun _ f => f) kp σ (fun a n hn e => ?_) (fun _ _ _ _ _ e => e) (fun _ _ _ e => e)⟩, fun a f => ?_, fun a w e => ?_, Rt.fh, Rt.fr, fun a w e => ?_, Rt.f0, Rt.f1, Rt.lk⟩
      · rcases Rt.sl i d' e with z | ⟨u, h1, h2⟩
        · exact .inl z
        · refine .inr ⟨u, h1, h2.keep (fun _ f => f) kp (fun a e => ?_) (fun _ _ _ e => e)⟩
          rw [if_neg (by rw [e]; intro z; cases z)]; exact e
      · rw [if_neg (by rw [e]; intro z; have := Sum.inr.inj (Option.some.inj z); omega)]; exact e
      · rw [R.fo a f, if_neg (by intro z; cases z)]
      · by_cases q : O a = some (.inr (src.length + tm.length))
        · exact R.oh a _ q
        · rw [if_neg q] at e; exact R.oh a w e
      · by_cases q : O a = some (.inr (src.length + tm.length))
        · exact R.mi a _ q
        · rw [if_neg q] at e; exact R.mi a w e
end

/-! ### what is walked -/
structure Wk (K : PySem.W.Frag) (B : Ba) (J : It) (items : List PyData) (src : List Vl) (sv : List V) (cond : List Vl → Prop) : Prop where
  go : ∀ lv st tm σ tv H i d, cond st → Rel K B lv st (src ++ tm) σ (sv ++ tv) H → items[i]? = some d → J.go i H ∧ ∀ x H', J.yld i H x H' → Rel K B lv st (.fr d :: (src ++ tm)) σ (x :: (sv ++ tv)) H'
  stop : ∀ lv st tm σ tv H, cond st → Rel K B lv st (src ++ tm) σ (sv ++ tv) H → J.stop items.length H
abbrev DTI := List Vl → (List PyData → List Vl → (List Vl → Prop) → List Vl → Prop) → Prop
def LI (K : PySem.W.Frag) (B : Ba) (lk : List Nat) (ti : DTI) : TI := fun σ H R => ∃ lv st tm tv Q0, Lk B lv lk ∧ Rel K B lv st tm σ tv H ∧ ti st Q0 ∧
  ∀ items src cond st' sv J H', Q0 items src cond st' → Wk K B J items src sv cond → sv.length = src.length → Rel K B lv st' (src ++ tm) σ (sv ++ tv) H' → R J H'
abbrev DI (X : Cx) (B : Ba) (lk : List Nat) (tg iter : Expr) (ti : DTI) : Prop := PI X tg iter (LI X.K B lk ti)
theorem PI.weak {X : Cx} {tg iter : Expr} {t t' : TI} (h : PI X tg iter t) (i : ∀ σ H Q, t' σ H Q → t σ H Q) : PI X tg iter t' := ⟨fun pins s σ H Q I q => h.run pins s σ H Q I (i σ H Q q)⟩

/-! ### for -/
def forGo (cond : List Vl → Prop) (g : DTG) (tb : DTS) (D : DEnds) : List PyData → List Vl → Prop
  | [], st => D.nx st
  | d :: ds, st => g (.fr d) st fun st2 => tb { D with nx := fun st3 => cond st3 ∧ forGo cond g tb D ds st3, ct := fun st3 => cond st3 ∧ forGo cond g tb D ds st3, bk := D.nx } st2
/-- lx: the slots that the loop walks (locked within) -/
def srcOk (lx : List Nat) : List Vl → Bool
  | [] => true
  | .bor i :: ds => lx.contains i && srcOk lx ds
  | .ow _ :: _ => false
  | .dk _ :: _ => false
  | .un _ :: _ => false
  | _ :: ds => srcOk lx ds
theorem srcOk_in {lx : List Nat} : ∀ {ds : List Vl} {i : Nat}, srcOk lx ds = true → Vl.bor i ∈ ds → i ∈ lx
  | [], _, _, h => by cases h
  | .bor k :: ds, i, ok, h => by
    rw [srcOk, Bool.and_eq_true] at ok
    rcases List.mem_cons.mp h with e | h
    · cases e; exact List.contains_iff_mem.mp ok.1
    · exact srcOk_in ok.2 h
  | .fr _ :: ds, i, ok, h => by rcases List.mem_cons.mp h with e | h; (cases e); exact srcOk_in (ds := ds) ok h
  | .ow _ :: ds, i, ok, h => by cases ok
  | .dk _ :: ds, i, ok, h => by cases ok
  | .un _ :: ds, i, ok, h => by cases ok
  | .cst _ :: ds, i, ok, h => by rcases List.mem_cons.mp h with e | h; (cases e); exact srcOk_in (ds := ds) ok h
  | .scr _ :: ds, i, ok, h => by rcases List.mem_cons.mp h with e | h; (cases e); exact srcOk_in (ds := ds) ok h
  | .exn _ :: ds, i, ok, h => by rcases List.mem_cons.mp h with e | h; (cases e); exact srcOk_in (ds := ds) ok h
  | .gone :: ds, i, ok, h => by rcases List.mem_cons.mp h with e | h; (cases e); exact srcOk_in (ds := ds) ok h
def cFor (lx : List Nat) (ti : DTI) (g : DTG) (tb : DTS) : DTS := fun D st => ti st fun items src cond st1 => srcOk lx src = true ∧ cond st1 ∧ forGo cond g tb D items st1
section
variable {X : Cx} {B : Ba} {lk : List Nat} {pos : Pos}
theorem ds_for (lx : List Nat) {ws : List Nat} {tg iter : Expr} {body : List Stmt} {ti : DTI} {g : DTG} {tb : DTS} (hp : PassesOwn (model X.prog X.w) X.A X.env X.xe) (hc : X.calm = true) (hi : DI X B lk tg iter ti) (hg : DG X B (lx ++ lk) ws tg g) (hb : DSs X B (lx ++ lk) body tb)
    (hs : ∀ x, foldedSetIterable iter X.env x = pure x := by intro _; rfl) : DS X B lk (.For tg iter body [] pos) (cFor lx ti g tb) :=
  PS.weak (ps_for hp hc hi hg hb hs) fun D σ H ⟨lv, st, tm, tv, D0, L, Bt, R, h, k⟩ => by
    refine ⟨lv, st, tm, tv, _, L, R, h, fun items src cond st1 sv J H1 q W hl R1 => ?_⟩
    obtain ⟨hsrc, hc0, hgo⟩ := q
    have L1 : Lk B (locks src sv ++ lv) (lx ++ lk) := ⟨fun p hp => by
      rcases List.mem_append.mp hp with hp | hp
      · exact List.mem_append_left _ (srcOk_in hsrc (locks_in hp))
      · exact List.mem_append_right _ (L.1 p hp), fun p hp => List.mem_append_right _ (L.2 p hp)⟩
    have B1 : Bl (src ++ tm) (lx ++ lk) := fun i hi => by
      rcases List.mem_append.mp hi with hi | hi
      · exact List.mem_append_left _ (srcOk_in hsrc hi)
      · exact List.mem_append_right _ (Bt i hi)
    refine ⟨fun i m σ H => m = items.length - i ∧ i ≤ items.length ∧ ∃ st, Rel X.K B (locks src sv ++ lv) st (src ++ tm) σ (sv ++ tv) H ∧ cond st ∧ forGo cond g tb D0 (items.drop i) st, ⟨items.length, by simp, Nat.zero_le _, st1, R1.lockAll hl, hc0, hgo⟩, ?_⟩
    rintro i m σ2 H2 ⟨rfl, hi, st2, R2, hc2, hgo2⟩
    by_cases hlt : i < items.length
    · have e : items[i]? = some items[i] := List.getElem?_eq_getElem hlt
      obtain ⟨go, yl⟩ := W.go _ _ _ _ _ _ i _ hc2 R2 e
      refine .inr ⟨go, fun σ H => ∃ st, Rel X.K B (locks src sv ++ lv) st (src ++ tm) σ (sv ++ tv) H ∧ cond st ∧ forGo cond g tb D0 (items.drop (i + 1)) st, fun σ' H' n => ⟨items.length - (i + 1), by omega, rfl, hlt, n⟩, fun x H' y => ?_⟩
      rw [List.drop_eq_getElem_cons hlt, forGo] at hgo2
      refine ⟨_, st2, .fr items[i], src ++ tm, sv ++ tv, _, L1, B1, yl x H' y, hgo2, fun st3 σ3 H3 q3 _ R3 => ?_⟩
      refine ⟨_, st3, src ++ tm, sv ++ tv, _, L1, B1, R3, q3, ⟨fun st4 σ4 H4 q4 R4 => ⟨st4, R4, q4.1, q4.2⟩, fun d st4 v σ4 H4 q4 R4 => k.rt d st4 v σ4 H4 q4 (Rel.under hl R4.unlock), fun st4 σ4 H4 q4 R4 => k.nx _ _ _ q4 (Rel.popAll hl.symm R4.unlock), fun st4 σ4 H4 q4 R4 => ⟨st4, R4, q4.1, q4.2⟩⟩⟩
    · have e : i = items.length := by omega
      subst e
      rw [List.drop_length, forGo] at hgo2
      exact .inl ⟨W.stop _ _ _ _ _ _ hc2 R2, k.nx _ _ _ hgo2 (Rel.popAll hl.symm R2.unlock)⟩
/-! ### while -/
end

/-! ### list comprehensions -/
/-- the slots ws forgotten -/
def wipeD (ws : List Nat) (st : List Vl) : List Vl := match ws with
  | [] => st
  | w :: ws => (wipeD ws st).set w .gone
/-- .. as they were -/
def rst (st0 : List Vl) (ws : List Nat) (st : List Vl) : List Vl := match ws with
  | [] => st
  | w :: ws => (rst st0 ws st).set w ((st0[w]?).getD .gone)
def frozen : Vl → Bool
  | .fr _ => true
  | .cst _ => true
  | .gone => true
  | _ => false
def frozenAt (st : List Vl) (ws : List Nat) : Bool := ws.all fun w => frozen ((st[w]?).getD .gone)
def lcGo (ws : List Nat) (cond : List Vl → Prop) (g : DTG) (tt : DTT) (te : DT) (Q : List PyData → List Vl → Prop) : List PyData → List PyData → List Vl → Prop
  | [], acc, st => Q acc st
  | d :: ds, acc, st => g (.fr d) st fun st2 => tt st2 fun b st3 => if b = true then te st3 fun y st4 => (match y with
      | .fr z => acc.length < sizeLine ∧ cond (wipeD ws st4) ∧ lcGo ws cond g tt te Q ds (acc ++ [z]) (wipeD ws st4)
      | _ => False) else cond (wipeD ws st3) ∧ lcGo ws cond g tt te Q ds acc (wipeD ws st3)
def cLc (lx ws : List Nat) (ti : DTI) (g : DTG) (tt : DTT) (te : DT) : DT := fun st Q => ti st fun items src cond st1 => srcOk lx src = true ∧ frozenAt st1 ws = true ∧ cond (wipeD ws st1) ∧
  lcGo ws cond g tt te (fun acc st' => Q (.ow acc) (rst st1 ws st')) items [] (wipeD ws st1)
/-- no tests -/
def cYes : DTT := fun st Q => Q true st
abbrev DTs (X : Cx) (B : Ba) (lk : List Nat) (es : List Expr) (t : DTT) : Prop := PTs X es (LT X.K B lk t)
theorem PTs.weak {X : Cx} {e : List Expr} {t t' : TT} (h : PTs X e t) (i : ∀ σ H Q, t' σ H Q → t σ H Q) : PTs X e t' := ⟨fun pins s σ H Q I q => h.run pins s σ H Q I (i σ H Q q)⟩
theorem dts_nil {X : Cx} {B : Ba} {lk : List Nat} : DTs X B lk [] cYes := PTs.weak pts_nil fun σ H Q ⟨lv, st, tm, tv, Q0, L, R, h, k⟩ => k _ _ _ h R
theorem dts_one {X : Cx} {B : Ba} {lk : List Nat} {c : Expr} {t : DTT} (h : DC X B lk c t) : DTs X B lk [c] t := pts_one h

section
variable {K : PySem.W.Frag} {B : Ba} {lv : List (Nat × V)} {st tm : List Vl} {σ : L2.St} {tv : List V} {H H' : Hp} {F F' : Addr → Prop} {O O' : Addr → Option Ow} {v : V} {d : Vl} {a p : Addr}
theorem wipeD_len (st : List Vl) : ∀ ws : List Nat, (wipeD ws st).length = st.length
  | [] => rfl
  | w :: ws => by rw [wipeD, List.length_set, wipeD_len st ws]
theorem wipeD_at {i : Nat} {d : Vl} : ∀ {ws : List Nat}, (wipeD ws st)[i]? = some d → d = .gone ∨ (st[i]? = some d ∧ i ∉ ws)
  | [], h => .inr ⟨h, by simp⟩
  | w :: ws, h => by
    rw [wipeD] at h
    by_cases e : w = i
    · subst e
      by_cases hl : w < (wipeD ws st).length
      · rw [List.getElem?_set_self hl] at h; cases h; exact .inl rfl
      · rw [List.getElem?_eq_none (by rw [List.length_set]; exact Nat.not_lt.mp hl)] at h; cases h
    · rw [List.getElem?_set_ne e] at h
      rcases wipeD_at h with z | ⟨z, y⟩
      · exact .inl z
      · exact .inr ⟨z, by simp only [List.mem_cons, not_or]; exact ⟨fun q => e q.symm, y⟩⟩
theorem wipe_wipe : ∀ (ws : List Nat) (us : List Nat), (∀ i ∈ us, i ∈ ws) → wipe (wipe σ ws) us = wipe σ ws := by
  have key : ∀ (τ : L2.St) (l : List Nat) (i : Nat), i ∈ l → i < τ.length → (wipe τ l)[i]? = some none := by
    intro τ l i
    induction l with
    | nil => intro h; cases h
    | cons w l ih =>
      intro h hi
      rw [wipe]
      by_cases e : w = i
      · subst e; rw [List.getElem?_set_self (by rw [wipe_length]; exact hi)]
      · rw [List.getElem?_set_ne e]
        rcases List.mem_cons.mp h with z | z
        · exact absurd z.symm e
        · exact ih z hi
  intro ws us
  induction us with
  | nil => intro _; rfl
  | cons u us ih =>
    intro h
    rw [wipe, ih fun i hi => h i (List.mem_cons_of_mem _ hi)]
    refine List.ext_getElem? fun i => ?_
    by_cases e : u = i
    · subst e
      by_cases hi : u < (wipe σ ws).length
      · rw [List.getElem?_set_self hi, key σ ws u (h u List.mem_cons_self) (by rw [wipe_length] at hi; exact hi)]
      · rw [List.getElem?_eq_none (by rw [List.length_set]; exact Nat.not_lt.mp hi), List.getElem?_eq_none (Nat.not_lt.mp hi)]
    · rw [List.getElem?_set_ne e]
theorem wipe_at {i : Nat} : ∀ {ws : List Nat}, i ∉ ws → (wipe σ ws)[i]? = σ[i]?
  | [], _ => rfl
  | w :: ws, h => by
    simp only [List.mem_cons, not_or] at h
    rw [wipe, List.getElem?_set_ne (fun e => h.1 e.symm)]
    exact wipe_at h.2
theorem wipe_eq {σ σ' : L2.St} {us : List Nat} : ∀ {ws : List Nat}, Fs us σ σ' → (∀ i ∈ us, i ∈ ws) → wipe σ' ws = wipe σ ws := by
  intro ws ⟨hl, hf⟩ hu
  refine List.ext_getElem? fun i => ?_
  by_cases hi : i ∈ ws
  · have key : ∀ (τ : L2.St) (l : List Nat), i ∈ l → (wipe τ l)[i]? = if i < τ.length then some none else none := by
      intro τ l
      induction l with
      | nil => intro h; cases h
      | cons w l ih =>
        intro h
        rw [wipe]
        by_cases e : w = i
        · subst e
          rw [List.getElem?_set]
          simp only [wipe_length, if_true]
        · rw [List.getElem?_set_ne e]
          rcases List.mem_cons.mp h with z | z
          · exact absurd z.symm e
          · exact ih z
    rw [key σ' ws hi, key σ ws hi, hl]
  · rw [wipe_at hi, wipe_at hi]
    exact hf i (fun z => hi (hu i z))
/-- the block's own slots forgotten, aliases among the temps too -/
def unb : Vl → Vl
  | .bor _ => .gone
  | d => d
theorem TmR.unb (σ' : L2.St) : ∀ {tm : List Vl} {tv : List V}, TmR K F O H σ tm tv → TmR K F O H σ' (tm.map DL.unb) tv
  | [], [], _ => trivial
  | d :: tm, v :: tv, ⟨h, r⟩ => by
    refine ⟨.inr ?_, TmR.unb σ' r⟩
    rw [List.length_map]
    rcases h with ⟨i, e, _⟩ | h
    · subst e; exact trivial
    · cases d with
      | bor _ => exact h.elim
      | _ => exact h
  | [], _ :: _, h => h.elim
  | _ :: _, [], h => h.elim
theorem TmR.reb {F' : Addr → Prop} {O' : Addr → Option Ow} : ∀ {tm : List Vl} {tv : List V}, TmR K F O H σ tm tv → TmR K F' O' H' σ (tm.map DL.unb) tv → TmR K F' O' H' σ tm tv
  | [], [], _, _ => trivial
  | d :: tm, v :: tv, ⟨h, r⟩, ⟨h', r'⟩ => by
    refine ⟨?_, TmR.reb r r'⟩
    rcases h with ⟨i, e, h⟩ | h
    · exact .inl ⟨i, e, h⟩
    · rw [List.length_map] at h'
      cases d with
      | bor _ => exact h.elim
      | _ =>
        rcases h' with ⟨i, e, _⟩ | h'
        · cases e
        · exact .inr h'
  | [], _ :: _, h, _ => h.elim
  | _ :: _, [], h, _ => h.elim
theorem RelX.wipe {ws : List Nat} (R : RelX K B lv st tm σ tv H F O) (hb : ∀ i, Vl.bor i ∈ tm → i ∉ ws) (hl : ∀ p ∈ lv, p.1 ∉ ws) : RelX K B lv (wipeD ws st) tm (L2.wipe σ ws) tv H F O := by
  refine ⟨by rw [wipeD_len, wipe_length]; exact R.len, fun i d e => ?_, R.tp.keep (fun _ f => f) (fun _ _ e _ => e) _ (fun _ _ _ e => e) (fun _ _ _ _ _ e => e) (fun i u hi e => by rw [wipe_at (hb i hi)]; exact e), R.fo, R.oh, R.fh, R.fr, R.mi, R.f0, R.f1, fun p hp => by rw [wipe_at (hl p hp)]; exact R.lk p hp⟩
  rcases wipeD_at e with z | ⟨z, y⟩
  · exact .inl z
  · rcases R.sl i d z with x | ⟨u, h1, h2⟩
    · exact .inl x
    · exact .inr ⟨u, by rw [wipe_at y]; exact h1, h2⟩
/-- one more item at the list that a temp owns -/
theorem RelX.appTmp {z : PyData} {y : V} {acc : List PyData} (hz : Rp K F H y z) (R : RelX K B lv st (.ow acc :: tm) σ (v :: tv) H F O) : ∃ a vs, v = .ref a ∧ H a = some (.lst vs) ∧ vs.length = acc.length ∧ Kp F H (upd H a (.lst (vs ++ [y]))) ∧ RelX K B lv st (.ow (acc ++ [z]) :: tm) σ (v :: tv) (upd H a (.lst (vs ++ [y]))) F O := by
  obtain ⟨a, vs, rfl, ho, h, r⟩ := R.top (d := .ow acc) (fun i e => by cases e)
  have kp : Kp F H (upd H a (.lst (vs ++ [y]))) := fun b x e hb => by
    rw [upd_ne]
    · exact e
    · rintro rfl
      rcases hb with f | s
      · rw [R.fo _ f] at ho; cases ho
      · rw [h] at e; cases e; exact s
  have R2 := R.pop
  refine ⟨a, vs, rfl, h, r.length, kp, R2.len, fun j d q => ?_, ⟨.inr ⟨a, _, rfl, ho, upd_same, (r.append (.one hz)).keep (fun _ f => f) kp⟩, R2.tp.keep (fun _ f => f) kp σ (fun b n _ e => e) (fun b x n hn e1 e2 => ?_) (fun _ _ _ e => e)⟩, R2.fo, fun b w e => ?_, fun b f => ?_, fun b x e n => ?_, R2.mi, R2.f0, R2.f1, R2.lk⟩
  · rcases R2.sl j d q with e | ⟨u, g1, g2⟩
    · exact .inl e
    · refine .inr ⟨u, g1, g2.keep (fun _ f => f) kp (fun b e => e) (fun b x e1 e2 => ?_)⟩
      rw [upd_ne]
      · exact e2
      · rintro rfl; rw [ho] at e1; cases e1
  · rw [upd_ne]
    · exact e2
    · rintro rfl; rw [ho] at e1; cases e1; exact absurd hn (Nat.lt_irrefl _)
  · by_cases q : b = a
    · subst q; rw [upd_same]; exact ⟨_, rfl, fun z => z⟩
    · rw [upd_ne q]; exact R2.oh b w e
  · by_cases q : b = a
    · subst q; rw [upd_same]; intro z; cases z
    · rw [upd_ne q]; exact R2.fh b f
  · rw [upd_ne]
    · exact R2.fr b x e n
    · rintro rfl
      rcases R2.mi _ _ ho with z | z
      · exact n z
      · rw [e] at z; cases z
/-- what is walked lies on other temps -/
theorem TmR.sink {lx : List Nat} {σ' : L2.St} (hF : ∀ a, F a → F' a) (kp : Kp F H H') {tm' : List Vl} {tv' : List V} (T : TmR K F' O' H' σ' tm' tv') : ∀ {src : List Vl} {sv : List V}, srcOk lx src = true → (∀ i v, Vl.bor i ∈ src → σ[i]? = some (some v) → σ'[i]? = some (some v)) → sv.length = src.length → TmR K F O H σ (src ++ tm) (sv ++ tv) → TmR K F' O' H' σ' (src ++ tm') (sv ++ tv')
  | [], [], _, _, _, _ => T
  | d :: src, v :: sv, ok, hb, hl, ⟨h, r⟩ => by
    have ok' : srcOk lx src = true := by
      cases d with
      | bor _ => rw [srcOk, Bool.and_eq_true] at ok; exact ok.2
      | ow _ => cases ok
      | dk _ => cases ok
      | un _ => cases ok
      | _ => exact ok
    refine ⟨?_, TmR.sink hF kp T ok' (fun i v hi => hb i v (List.mem_cons_of_mem _ hi)) (Nat.succ.inj hl) r⟩
    rcases h with ⟨i, e, h⟩ | h
    · subst e
      exact .inl ⟨i, rfl, hb i v List.mem_cons_self h⟩
    · cases d with
      | bor _ => exact h.elim
      | ow _ => cases ok
      | dk _ => cases ok
      | un _ => cases ok
      | fr x => exact .inr (Rp.keep hF kp x v h)
      | cst c => exact .inr h
      | gone => exact .inr h
      | scr ns => obtain ⟨a, e, h⟩ := h; exact .inr ⟨a, e, h.keep kp⟩
      | exn x => obtain ⟨a, e, h⟩ := h; exact .inr ⟨a, e, kp _ _ h (.inr trivial)⟩
  | [], _ :: _, _, _, h, _ => by cases h
  | _ :: _, [], _, _, h, _ => by cases h
theorem RelX.withTm {σ' : L2.St} {st' tm' : List Vl} {tv' : List V} (R : RelX K B lv st tm σ tv H F O) (T : TmR K F O H σ tm' tv') : RelX K B lv st tm' σ tv' H F O := ⟨R.len, R.sl, T, R.fo, R.oh, R.fh, R.fr, R.mi, R.f0, R.f1, R.lk⟩
/-- the values of the slots ws, as temps -/
theorem RelX.shelve : ∀ (ws : List Nat), RelX K B lv st tm σ tv H F O → frozenAt st ws = true → ∃ shv : List V, shv.length = ws.length ∧ RelX K B lv st ((ws.map fun w => (st[w]?).getD .gone) ++ tm) σ (shv ++ tv) H F O ∧
    ∀ (i : Nat) w d u, ws[i]? = some w → st[w]? = some d → d ≠ .gone → shv[i]? = some u → σ[w]? = some (some u)
  | [], R, _ => ⟨[], rfl, R, fun i w d u h => by simp at h⟩
  | w :: ws, R, h => by
    rw [frozenAt, List.all_cons, Bool.and_eq_true] at h
    obtain ⟨shv, e1, R1, e3⟩ := RelX.shelve ws R h.2
    have key : ∃ u, VR K F O H (.inr ((ws.map fun w => (st[w]?).getD .gone) ++ tm).length) u ((st[w]?).getD .gone) ∧ ∀ d, st[w]? = some d → d ≠ .gone → σ[w]? = some (some u) := by
      cases q : st[w]? with
      | none => exact ⟨.non, trivial, fun d z => by cases z⟩
      | some d =>
        rcases R.sl w d q with z | ⟨u, h1, h2⟩
        · subst z; exact ⟨.non, trivial, fun d z n => by cases z; exact absurd rfl n⟩
        · refine ⟨u, ?_, fun d' z _ => h1⟩
          rw [q] at h
          have hf := h.1
          cases d with
          | fr x => exact h2
          | cst c => exact h2
          | gone => exact trivial
          | _ => cases hf
    obtain ⟨u, k1, k2⟩ := key
    refine ⟨u :: shv, congrArg (· + 1) e1, R1.push k1, fun i w' d u' h1 h2 h3 h4 => ?_⟩
    cases i with
    | zero => simp at h1 h4; subst h1 h4; exact k2 d h2 h3
    | succ i => exact e3 i w' d u' (by simpa using h1) h2 h3 (by simpa using h4)
/-- .. and back -/
theorem RelX.unshelve {st0 : List Vl} {σ0 : L2.St} : ∀ (ws : List Nat) {shv : List V} {st : List Vl}, shv.length = ws.length → frozenAt st0 ws = true → (∀ (i : Nat) w d u, ws[i]? = some w → st0[w]? = some d → d ≠ .gone → shv[i]? = some u → σ0[w]? = some (some u)) →
    TmR K F O H σ ((ws.map fun w => (st0[w]?).getD .gone) ++ tm) (shv ++ tv) → RelX K B lv st [] σ0 [] H F O → RelX K B lv (rst st0 ws st) [] σ0 [] H F O
  | [], _, st, _, _, _, _, R => R
  | w :: ws, [], _, h, _, _, _, _ => by cases h
  | w :: ws, u :: shv, st, hl, hf, he, ⟨h, r⟩, R => by
    rw [frozenAt, List.all_cons, Bool.and_eq_true] at hf
    have R1 := RelX.unshelve ws (st := st) (Nat.succ.inj hl) hf.2 (fun i w' d u' h1 h2 h3 h4 => he (i + 1) w' d u' (by simpa using h1) h2 h3 (by simpa using h4)) r R
    rw [rst]
    refine R1.setSl ?_
    cases q : st0[w]? with
    | none => exact .inl rfl
    | some d =>
      by_cases hg : d = .gone
      · subst hg; exact .inl rfl
      · refine .inr ⟨u, he 0 w d u rfl q hg rfl, ?_⟩
        have hd : (st0[w]?).getD .gone = d := by rw [q]; rfl
        dsimp only at h
        rw [hd] at h
        have hf1 : frozen d = true := by rw [← hd]; exact hf.1
        show VR K F O H (.inl w) u d
        rcases h with ⟨i, e, _⟩ | h
        · rw [show d = .bor i from e] at hf1; cases hf1
        · cases d with
          | fr x => exact h
          | cst c => exact h
          | gone => exact trivial
          | _ => cases hf1
end
section
variable {X : Cx} {B : Ba} {lk : List Nat} {pos : Pos}
theorem lc_weak (lx ws wg : List Nat) {ti : DTI} {g : DTG} {tt : DTT} {te : DT} (hd : ((lx ++ lk).all fun i => !ws.contains i) = true) (hw : (wg.all fun i => ws.contains i) = true) {σ : L2.St} {H : Hp} {Q : VK} (h : LE X.K B lk (cLc lx ws ti g tt te) σ H Q) :
    tLc (LI X.K B lk ti) (LG X.K B (lx ++ lk) wg g) (LT X.K B (lx ++ lk) tt) (LE X.K B (lx ++ lk) te) ws σ H Q := by
  obtain ⟨lv, st, tm, tv, Q0, L, R, h, k⟩ := h
  refine ⟨lv, st, tm, tv, _, L, R, h, fun items src cond st1 sv J H1 q W hl R1 D hD => ?_⟩
  obtain ⟨hsrc, hfz, hc0, hgo⟩ := q
  have hdis : ∀ i ∈ lx ++ lk, i ∉ ws := fun i hi z => by
    have := List.all_eq_true.mp hd i hi
    rw [List.contains_iff_mem.mpr z] at this
    cases this
  have hwg : ∀ i ∈ wg, i ∈ ws := fun i hi => List.contains_iff_mem.mp (List.all_eq_true.mp hw i hi)
  have L1 : Lk B (locks src sv ++ lv) (lx ++ lk) := ⟨fun p hp => by
    rcases List.mem_append.mp hp with hp | hp
    · exact List.mem_append_left _ (srcOk_in hsrc (locks_in hp))
    · exact List.mem_append_right _ (L.1 p hp), fun p hp => List.mem_append_right _ (L.2 p hp)⟩
  have hbs : ∀ i, Vl.bor i ∈ src → i ∉ ws := fun i hi => hdis i (List.mem_append_left _ (srcOk_in hsrc hi))
  obtain ⟨F1, O1, R2⟩ := R1.lockAll hl
  have Rtm : RelX X.K B (locks src sv ++ lv) st1 tm σ tv H1 F1 O1 := R2.popAll hl
  -- the values of the own names are laid aside
  obtain ⟨shv, hsl, R3, hsh⟩ := RelX.shelve ws (Rtm.withTm (σ' := σ) (st' := st1) (Rtm.tp.unb σ)) hfz
  have R4 : RelX X.K B (locks src sv ++ lv) st1 (.ow [] :: ((ws.map fun w => (st1[w]?).getD .gone) ++ tm.map unb)) σ (.ref D :: (shv ++ tv)) (upd H1 D (.lst [])) F1 _ := R3.newLst (vs := []) (ds := []) hD .nil
  have R5 := R4.wipe (ws := ws) (fun i hi z => by
    rcases List.mem_cons.mp hi with e | hi
    · cases e
    · rcases List.mem_append.mp hi with hi | hi
      · obtain ⟨w, hw1, hw2⟩ := List.mem_map.mp hi
        have hf := List.all_eq_true.mp hfz w hw1
        rw [hw2] at hf; cases hf
      · obtain ⟨y, _, hy⟩ := List.mem_map.mp hi
        cases y <;> cases hy) (fun p hp => hdis _ (L1.1 p hp))
  have T5 := TmR.sink (F' := F1) (H' := upd H1 D (.lst [])) (fun _ f => f) (fun b u e _ => upd_le hD b u e) R5.tp hsrc (fun i v hi e => by rw [wipe_at (hbs i hi)]; exact e) hl R2.tp
  have R6 : Rel X.K B (locks src sv ++ lv) (wipeD ws st1) (src ++ (.ow [] :: ((ws.map fun w => (st1[w]?).getD .gone) ++ tm.map unb))) (L2.wipe σ ws) (sv ++ (.ref D :: (shv ++ tv))) (upd H1 D (.lst [])) := ⟨F1, _, R5.withTm (σ' := σ) (st' := st1) T5⟩
  -- the loop's word
  refine ⟨fun i m H => m = items.length - i ∧ i ≤ items.length ∧ ∃ st acc, Rel X.K B (locks src sv ++ lv) st (src ++ (.ow acc :: ((ws.map fun w => (st1[w]?).getD .gone) ++ tm.map unb))) (L2.wipe σ ws) (sv ++ (.ref D :: (shv ++ tv))) H ∧ cond st ∧
    lcGo ws cond g tt te (fun acc st' => Q0 (.ow acc) (rst st1 ws st')) (items.drop i) acc st, ⟨items.length, by simp, Nat.zero_le _, _, _, R6, hc0, hgo⟩, ?_⟩
  rintro i m H2 ⟨rfl, hi, st2, acc, R7, hc2, hgo2⟩
  by_cases hlt : i < items.length
  · have e : items[i]? = some items[i] := List.getElem?_eq_getElem hlt
    obtain ⟨go, yl⟩ := W.go _ _ _ _ _ _ i _ hc2 R7 e
    refine .inr ⟨go, fun H => ∃ st acc, Rel X.K B (locks src sv ++ lv) st (src ++ (.ow acc :: ((ws.map fun w => (st1[w]?).getD .gone) ++ tm.map unb))) (L2.wipe σ ws) (sv ++ (.ref D :: (shv ++ tv))) H ∧ cond st ∧
      lcGo ws cond g tt te (fun acc st' => Q0 (.ow acc) (rst st1 ws st')) (items.drop (i + 1)) acc st, fun H' n => ⟨items.length - (i + 1), by omega, rfl, hlt, n⟩, fun x H' y => ?_⟩
    rw [List.drop_eq_getElem_cons hlt, lcGo] at hgo2
    have B1 : ∀ acc : List PyData, Bl (src ++ (.ow acc :: ((ws.map fun w => (st1[w]?).getD .gone) ++ tm.map unb))) (lx ++ lk) := fun acc j hj => by
      rcases List.mem_append.mp hj with hj | hj
      · exact List.mem_append_left _ (srcOk_in hsrc hj)
      · rcases List.mem_cons.mp hj with e | hj
        · cases e
        · rcases List.mem_append.mp hj with hj | hj
          · obtain ⟨w, hw1, hw2⟩ := List.mem_map.mp hj
            have hf := List.all_eq_true.mp hfz w hw1
            rw [hw2] at hf; cases hf
          · obtain ⟨z, _, hz⟩ := List.mem_map.mp hj
            cases z <;> cases hz
    refine ⟨_, st2, .fr items[i], _, _, _, L1, B1 acc, yl x H' y, hgo2, fun st3 σ3 H3 q3 f3 R8 => ?_⟩
    have hwe : L2.wipe σ3 ws = L2.wipe σ ws := by
      rw [wipe_eq f3 hwg, wipe_wipe ws ws fun _ h => h]
    -- the turn's end: the own names are forgotten
    have fin : ∀ {stE : List Vl} {accE : List PyData} {HE : Hp}, Rel X.K B (locks src sv ++ lv) stE (src ++ (.ow accE :: ((ws.map fun w => (st1[w]?).getD .gone) ++ tm.map unb))) σ3 (sv ++ (.ref D :: (shv ++ tv))) HE →
        Rel X.K B (locks src sv ++ lv) (wipeD ws stE) (src ++ (.ow accE :: ((ws.map fun w => (st1[w]?).getD .gone) ++ tm.map unb))) (L2.wipe σ ws) (sv ++ (.ref D :: (shv ++ tv))) HE := fun ⟨F, O, RE⟩ => by
      have hh := RE.wipe (ws := ws) (fun i hi z => hdis i (B1 _ i hi) z) (fun p hp => hdis _ (L1.1 p hp))
      rw [hwe] at hh
      exact ⟨F, O, hh⟩
    refine ⟨hwe, ?_⟩
    refine ⟨_, st3, _, _, _, L1, R8, q3, fun b st4 H4 q4 R9 => ?_⟩
    cases b with
    | false =>
      rw [if_neg Bool.false_ne_true] at q4 ⊢
      exact ⟨_, acc, fin R9, q4.1, q4.2⟩
    | true =>
      rw [if_pos rfl] at q4 ⊢
      refine ⟨_, st4, _, _, _, L1, R9, q4, fun y st5 v5 H5 q5 R10 => ?_⟩
      split at q5
      · rename_i z
        obtain ⟨hz1, hz2, hz3⟩ := q5
        obtain ⟨F5, O5, R10⟩ := R10
        have hz : Rp X.K F5 H5 v5 z := R10.top (d := .fr z) (fun i e => by cases e)
        obtain ⟨a, vs, ea, hD5, hlv, kp, R11⟩ := RelX.appTmp hz (R10.pop.popAll hl)
        cases ea
        refine ⟨vs, hD5, by rw [hlv]; exact hz1, wipeD ws st5, acc ++ [z], fin ⟨F5, O5, R11.withTm (σ' := σ) (st' := st1) (TmR.sink (fun _ f => f) kp R11.tp hsrc (fun _ _ _ e => e) hl R10.pop.tp)⟩, hz2, hz3⟩
      · exact q5.elim
  · have e : i = items.length := by omega
    subst e
    rw [List.drop_length, lcGo] at hgo2
    refine .inl ⟨W.stop _ _ _ _ _ _ hc2 R7, ?_⟩
    obtain ⟨F7, O7, R7⟩ := R7
    have R8 := R7.popAll hl
    have T8 : TmR X.K F7 O7 H2 (L2.wipe σ ws) ((ws.map fun w => (st1[w]?).getD .gone) ++ tm.map unb) (shv ++ tv) := R8.tp.2
    have hshl : shv.length = (ws.map fun w => (st1[w]?).getD .gone).length := by rw [hsl, List.length_map]
    have T9 : TmR X.K F7 O7 H2 (L2.wipe σ ws) (tm.map unb) tv := (R8.pop.popAll hshl).tp
    have T10 : TmR X.K F7 O7 H2 σ tm tv := by
      have := T9.unb σ
      rw [List.map_map, show (unb ∘ unb) = unb from funext fun d => by cases d <;> rfl] at this
      exact Rtm.tp.reb this
    have hso : ∀ l : List Nat, frozenAt st1 l = true → srcOk lx (l.map fun w => (st1[w]?).getD .gone) = true := by
      intro l
      induction l with
      | nil => intro _; rfl
      | cons w l ih =>
        intro h
        rw [frozenAt, List.all_cons, Bool.and_eq_true] at h
        have h2 := ih h.2
        rw [List.map_cons]
        revert h2
        generalize (l.map fun w => (st1[w]?).getD .gone) = r
        intro h2
        have h1 := h.1
        cases hx : (st1[w]?).getD .gone with
        | fr _ => exact h2
        | cst _ => exact h2
        | gone => exact h2
        | _ => rw [hx] at h1; cases h1
    have T11 : TmR X.K F7 O7 H2 σ ((ws.map fun w => (st1[w]?).getD .gone) ++ tm) (shv ++ tv) :=
      TmR.sink (fun _ f => f) (fun _ _ e _ => e) T10 (hso ws hfz) (fun i v hi e => by
        obtain ⟨w, hw1, hw2⟩ := List.mem_map.mp hi
        have hf := List.all_eq_true.mp hfz w hw1
        rw [hw2] at hf; cases hf) hshl T8
    have RB : RelX X.K B (locks src sv ++ lv) st2 [] σ [] H2 F7 O7 := by
      refine ⟨by have := R8.len; rw [wipe_length] at this; exact this, fun i d e => ?_, trivial, R8.fo, R8.oh, R8.fh, R8.fr, R8.mi, R8.f0, R8.f1, fun p hp => (wipe_some (R8.lk p hp)).1⟩
      rcases R8.sl i d e with z | ⟨u, h1, h2⟩
      · exact .inl z
      · exact .inr ⟨u, (wipe_some h1).1, h2⟩
    have RC := RelX.unshelve ws hsl hfz hsh T8 RB
    have RD : RelX X.K B (locks src sv ++ lv) (rst st1 ws st2) (.ow acc :: ((ws.map fun w => (st1[w]?).getD .gone) ++ tm)) σ (.ref D :: (shv ++ tv)) H2 F7 O7 := by
      refine RC.withTm (σ' := σ) (st' := st1) ⟨.inr ?_, T11⟩
      have := R8.top (d := .ow acc) (fun i e => by cases e)
      rw [List.length_append, List.length_map (f := unb)] at this
      rw [List.length_append]
      exact this
    exact k _ _ _ _ hgo2 (Rel.under hshl (Rel.unlock ⟨F7, O7, RD⟩))
variable {elt tg iter : Expr} {ifs : List Expr} {scope : Scope} {own : List (Str × Nat)}
/-- [elt for tg in iter if ..] -/
theorem de_lc (lx : List Nat) {wg : List Nat} {ti : DTI} {g : DTG} {tt : DTT} {te : DT} (hc : X.calm = true) (hN : X.N.Nodup) (hi : DI X B lk tg iter ti) (ok : BlkOk X.N X.env.scope scope own)
    (hd : ((lx ++ lk).all fun i => !(own.map (·.2)).contains i) = true) (hw : (wg.all fun i => (own.map (·.2)).contains i) = true)
    (hg : ∀ (s : Shared) (H : Hp) (C : Addr) (cl : List (Str × Addr)) (fp : List Addr), DG (X.blk s H scope (compEnvC scope cl C X.env) fp) B (lx ++ lk) wg tg g)
    (ht : ∀ (s : Shared) (H : Hp) (C : Addr) (cl : List (Str × Addr)) (fp : List Addr), DTs (X.blk s H scope (compEnvC scope cl C X.env) fp) B (lx ++ lk) ifs tt)
    (he : ∀ (s : Shared) (H : Hp) (C : Addr) (cl : List (Str × Addr)) (fp : List Addr), DE (X.blk s H scope (compEnvC scope cl C X.env) fp) B (lx ++ lk) elt te)
    (hs : ∀ x, foldedSetIterable iter X.env x = pure x := by intro _; rfl) : DE X B lk (.ListComp elt [⟨tg, iter, ifs, 0⟩] scope pos) (cLc lx (own.map (·.2)) ti g tt te) :=
  PE.weak (pe_lc hc hN hi ok hg ht he hs) fun _ _ _ h => lc_weak lx _ wg hd hw h
/-- y = [..] on one line, y a local: te' is the comprehension, perhaps frozen -/
theorem ds_setLc (lx : List Nat) (i : Nat) {y : Str} {py spos : Pos} {wg : List Nat} {ti : DTI} {g : DTG} {tt : DTT} {te te' : DT} (hle : ∀ σ H Q, LE X.K B lk te' σ H Q → LE X.K B lk (cLc lx (own.map (·.2)) ti g tt te) σ H Q)
    (hc : X.calm = true) (hN : X.N.Nodup) (hl : lk.contains i = false) (hy : X.N[i]? = some y) (hyl : X.env.scope.names.lookup y = some .local)
    (hsw : swapsWith (.ListComp elt [⟨tg, iter, ifs, 0⟩] scope pos) (some (.Name y py)) spos.line X.env = pure true) (hi : DI X B lk tg iter ti) (ok : BlkOk X.N X.env.scope scope own)
    (hd : ((lx ++ lk).all fun i => !(own.map (·.2)).contains i) = true) (hw : (wg.all fun i => (own.map (·.2)).contains i) = true)
    (hg : ∀ (s : Shared) (H : Hp) (C : Addr) (cl : List (Str × Addr)) (fp : List Addr), DG (X.blk s H scope (compEnvC scope cl C X.env) fp) B (lx ++ lk) wg tg g)
    (ht : ∀ (s : Shared) (H : Hp) (C : Addr) (cl : List (Str × Addr)) (fp : List Addr), DTs (X.blk s H scope (compEnvC scope cl C X.env) fp) B (lx ++ lk) ifs tt)
    (he : ∀ (s : Shared) (H : Hp) (C : Addr) (cl : List (Str × Addr)) (fp : List Addr), DE (X.blk s H scope (compEnvC scope cl C X.env) fp) B (lx ++ lk) elt te)
    (hs : ∀ x, foldedSetIterable iter X.env x = pure x := by intro _; rfl) : DS X B lk (.Assign [.Name y py] (.ListComp elt [⟨tg, iter, ifs, 0⟩] scope pos) spos) (cAsg te' (gNm i)) :=
  PS.weak (L2.ps_setLc hc hN hy hyl hsw hi ok hg ht he hs) fun D σ H ⟨lv, st, tm, tv, D0, L, Bt, R, h, k⟩ => by
    have hn : i ∉ lk := fun z => by rw [List.contains_iff_mem.mpr z] at hl; cases hl
    have h2 : LE X.K B lk te' σ H (fun x H1 => D.nx (σ.set i (some x)) H1) := ⟨lv, st, tm, tv, _, L, R, h, fun d st' v H' q R' => k.nx _ _ _ q.2.2 (R'.store q.1 q.2.1 (fun z => hn (Bt i z)) (fun p hp z => hn (z ▸ L.1 p hp)))⟩
    exact lc_weak lx _ wg hd hw (hle _ _ _ h2)
end
end DL

/-! The data layer, part 7: what is walked: lists, tuples, ranges, enumerate, zip. -/
namespace DL
open PySem PySem.Spec PyProof.Rows L2

/-! ### lists, tuples, ranges -/
/-- a thing walked that nobody owns (a fresh list is frozen) or an alias -/
def cSeqI (te : DT) : DTI := fun st Q => te st fun d st' => match d with
  | .ow ds => Q ds [.fr (.list ds)] (fun _ => True) st'
  | .fr (.list ds) => Q ds [d] (fun _ => True) st'
  | .fr (.tuple ds) => Q ds [d] (fun _ => True) st'
  | .scr ns => Q (ns.map .int) [d] (fun _ => True) st'
  | .bor i => (match st'[i]? with
    | some (.ow ds) => Q ds [d] (fun st => st[i]? = some (.ow ds)) st'
    | _ => False)
  | _ => False
section
variable {K : PySem.W.Frag} {B : Ba} {lv : List (Nat × V)} {st tm : List Vl} {σ : L2.St} {tv : List V} {H : Hp} {v : V} {d : Vl}
/-- a source: at each state in which cond holds, its V-list is known -/
theorem wk_list {a : Addr} {ds : List PyData} {cond : List Vl → Prop} (h : ∀ st, cond st → pyO st d = some (.list ds)) : Wk K B (Itl K a) ds [d] [.ref a] cond where
  go := fun lv st tm σ tv H i x hc R e => by
    obtain ⟨F, O, R⟩ := R
    obtain ⟨a', vs, e1, h1, r⟩ := R.lst (h st hc)
    cases e1
    obtain ⟨w, hw, rw⟩ := r.get e
    refine ⟨⟨vs, w, h1, hw⟩, fun y H' z => ?_⟩
    obtain ⟨rfl, z⟩ := z
    have e2 := z vs h1
    rw [hw] at e2
    cases e2
    exact ⟨F, O, R.push (d := .fr x) rw⟩
  stop := fun lv st tm σ tv H hc R => by
    obtain ⟨F, O, R⟩ := R
    obtain ⟨a', vs, e1, h1, r⟩ := R.lst (h st hc)
    cases e1
    exact ⟨vs, h1, by rw [r.length]; exact Nat.le_refl _⟩
theorem wk_tup {a : Addr} {ds : List PyData} {cond : List Vl → Prop} (h : ∀ st, cond st → pyO st d = some (.tuple ds)) : Wk K B (Itt K a) ds [d] [.ref a] cond where
  go := fun lv st tm σ tv H i x hc R e => by
    obtain ⟨F, O, R⟩ := R
    obtain ⟨a', vs, e1, h1, r⟩ := R.tup (h st hc)
    cases e1
    obtain ⟨w, hw, rw⟩ := r.get e
    refine ⟨⟨vs, w, h1, hw⟩, fun y H' z => ?_⟩
    obtain ⟨rfl, z⟩ := z
    have e2 := z vs h1
    rw [hw] at e2
    cases e2
    exact ⟨F, O, R.push (d := .fr x) rw⟩
  stop := fun lv st tm σ tv H hc R => by
    obtain ⟨F, O, R⟩ := R
    obtain ⟨a', vs, e1, h1, r⟩ := R.tup (h st hc)
    cases e1
    exact ⟨vs, h1, by rw [r.length]; exact Nat.le_refl _⟩
theorem wk_range {lo : Int} {n : Nat} {cond : List Vl → Prop} : Wk K B (Itr lo n) ((List.range n).map fun (i : Nat) => PyData.int (lo + (i : Int))) [] [] cond where
  go := fun lv st tm σ tv H i x hc R e => by
    have hi : i < n := by
      by_cases h : i < n
      · exact h
      · rw [List.getElem?_eq_none (by rw [List.length_map, List.length_range]; exact Nat.not_lt.mp h)] at e; cases e
    rw [List.getElem?_map, List.getElem?_range hi] at e
    have e' : PyData.int (lo + (i : Int)) = x := Option.some.inj e
    refine ⟨hi, fun y H' z => ?_⟩
    obtain ⟨rfl, rfl⟩ := z
    rw [← e']
    exact R.int _
  stop := fun lv st tm σ tv H hc R => by
    show n ≤ _
    rw [List.length_map, List.length_range]
    exact Nat.le_refl _
end
section
variable {X : Cx} {B : Ba} {lk : List Nat} {tg e : Expr} {te : DT}
def iSeq (K : PySem.W.Frag) (tl : TE) : TI := fun σ H R => tl σ H fun x H1 => ∃ a, x = .ref a ∧ (((∃ xs, SqL K H1 a xs) ∧ R (Itl K a) H1) ∨ ((∃ xs, SqT K H1 a xs) ∧ R (Itt K a) H1))
theorem pi_seq {tl : TE} (hl : PE X e tl) : PI X tg e (iSeq X.K tl) := by
  refine ⟨fun pins s σ H R I h => ?_⟩
  refine thn (hl.run pins s σ H _ I h) fun v s1 ⟨x, H1, I1, r1, q1⟩ => ?_
  obtain ⟨a, e, q1⟩ := q1
  subst e
  cases r1
  have I2 : ∀ {o : Obj}, Inv X pins σ H1 { s1 with heap := s1.heap.push o } := I1.kept (t' := s1.toks) fun b o e => Heap.get?_push_of_some _ e
  have hf : ∀ b ∈ [s1.heap.objs.size], FpOk X pins H1 b := fun b hb => by
    have e : b = s1.heap.objs.size := by simpa using hb
    subst e
    exact I1.fpOk (Nat.le_refl _) (I1.hok.fresh (Nat.le_refl _))
  rcases q1 with ⟨⟨xs, hq⟩, q⟩ | ⟨⟨xs, hq⟩, q⟩
  · obtain ⟨its, rv, p, hz⟩ := I1.list hq
    refine wpAny_pyIter_list p.isList ?_
    exact ⟨s1.heap.objs.size, [s1.heap.objs.size], _, _, H1, rfl, I2, turn_list a _, ⟨_, Heap.get?_push_size _ rfl, rfl, rfl⟩, hf, q⟩
  · obtain ⟨its, rv, p, hz⟩ := I1.tuple hq
    refine wpAny_pyIter_tuple (show s1.heap.IsTuple a its.toArray from p) ?_
    exact ⟨s1.heap.objs.size, [s1.heap.objs.size], _, _, H1, rfl, I2, turn_tuple a _, ⟨_, Heap.get?_push_size _ rfl, rfl, rfl⟩, hf, q⟩
theorem di_seq (he : DE X B lk e te) : DI X B lk tg e (cSeqI te) := PI.weak (pi_seq he) fun σ H R ⟨lv, st, tm, tv, Q0, L, Rl, h, k⟩ => by
  refine ⟨lv, st, tm, tv, _, L, Rl, h, fun d st' v H' q R' => ?_⟩
  split at q
  · rename_i ds
    have R2 := R'.frzTop
    obtain ⟨a, vs, rfl, h1, _⟩ := R2.lst (d := .fr (.list ds)) rfl
    exact ⟨a, rfl, .inl ⟨⟨vs, h1⟩, k ds [.fr (.list ds)] _ st' [.ref a] _ _ q (wk_list fun _ _ => rfl) rfl R2⟩⟩
  · rename_i ds
    obtain ⟨a, vs, rfl, h1, _⟩ := R'.lst (d := .fr (.list ds)) rfl
    exact ⟨a, rfl, .inl ⟨⟨vs, h1⟩, k ds [.fr (.list ds)] _ st' [.ref a] _ _ q (wk_list fun _ _ => rfl) rfl R'⟩⟩
  · rename_i ds
    obtain ⟨a, vs, rfl, h1, _⟩ := R'.tup (d := .fr (.tuple ds)) rfl
    exact ⟨a, rfl, .inr ⟨⟨vs, h1⟩, k ds [.fr (.tuple ds)] _ st' [.ref a] _ _ q (wk_tup fun _ _ => rfl) rfl R'⟩⟩
  · rename_i ns
    obtain ⟨a, vs, rfl, h1, _⟩ := R'.lst (d := .scr ns) rfl
    exact ⟨a, rfl, .inl ⟨⟨vs, h1⟩, k (ns.map .int) [.scr ns] _ st' [.ref a] _ _ q (wk_list fun _ _ => rfl) rfl R'⟩⟩
  · rename_i i
    split at q
    · rename_i ds e1
      obtain ⟨a, vs, rfl, h1, _⟩ := R'.lst (d := .bor i) (ds := ds) (by simp only [pyO, e1])
      exact ⟨a, rfl, .inl ⟨⟨vs, h1⟩, k ds [.bor i] (fun st => st[i]? = some (.ow ds)) st' [.ref a] _ _ q (wk_list fun st e => by simp only [pyO, e]) rfl R'⟩⟩
    · exact q.elim
  · exact q.elim
/-- range -/
def rng (lo hi : Int) : List PyData := (List.range (hi - lo).toNat).map fun (i : Nat) => PyData.int (lo + (i : Int))
def cRng1 (ta : DTA) : DTI := fun st Q => ta st fun ds st' => match ds with
  | [.fr (.int j)] => -(2 ^ 62) ≤ j ∧ j < 2 ^ 62 ∧ Q (rng 0 j) [] (fun _ => True) st'
  | _ => False
def cRng2 (ta : DTA) : DTI := fun st Q => ta st fun ds st' => match ds with
  | [.fr (.int i), .fr (.int j)] => -(2 ^ 62) ≤ i ∧ i < 2 ^ 62 ∧ -(2 ^ 62) ≤ j ∧ j < 2 ^ 62 ∧ Q (rng i j) [] (fun _ => True) st'
  | _ => False
theorem di_range1 {a : Expr} {ta : DTA} {p pos : Pos} (hg : Gl X "range") (hm : X.mg "range" = none) (ha : DA X B lk [a] ta) (hs : starEach [a] X.env = [(false, eval a X.env)] := by rfl) : DI X B lk tg (.Call (.Name "range" p) [a] [] pos) (cRng1 ta) :=
  PI.weak (pi_range1 hg hm ha hs) fun σ H R ⟨lv, st, tm, tv, Q0, L, Rl, h, k⟩ => by
    refine ⟨lv, st, tm, tv, _, L, Rl, h, fun ds st' vs H' q hl R' => ?_⟩
    split at q
    · rename_i j
      match vs, hl with
      | [v], _ =>
        have R2 : Rel X.K B lv st' (.fr (.int j) :: tm) σ (v :: tv) H' := R'
        obtain rfl := R2.isInt
        refine ⟨j, rfl, q.1, q.2.1, ?_⟩
        have W : Wk X.K B (Itr 0 j.toNat) (rng 0 j) [] [] (fun _ => True) := by
          unfold rng; rw [Int.sub_zero]; exact wk_range
        exact k _ [] _ st' [] _ _ q.2.2 W rfl R2.pop
    · exact q.elim
theorem di_range2 {a b : Expr} {ta : DTA} {p pos : Pos} (hg : Gl X "range") (hm : X.mg "range" = none) (ha : DA X B lk [a, b] ta) (hs : starEach [a, b] X.env = [(false, eval a X.env), (false, eval b X.env)] := by rfl) (hs2 : starEach [b] X.env = [(false, eval b X.env)] := by rfl) :
    DI X B lk tg (.Call (.Name "range" p) [a, b] [] pos) (cRng2 ta) :=
  PI.weak (pi_range2 hg hm ha hs hs2) fun σ H R ⟨lv, st, tm, tv, Q0, L, Rl, h, k⟩ => by
    refine ⟨lv, st, tm, tv, _, L, Rl, h, fun ds st' vs H' q hl R' => ?_⟩
    split at q
    · rename_i i j
      match vs, hl with
      | [v, w], _ =>
        have R2 : Rel X.K B lv st' (.fr (.int j) :: .fr (.int i) :: tm) σ (w :: v :: tv) H' := R'
        obtain rfl := R2.isInt
        obtain rfl := R2.pop.isInt
        exact ⟨i, j, rfl, ⟨q.1, q.2.1, q.2.2.1, q.2.2.2.1⟩, k _ [] _ st' [] _ _ q.2.2.2.2 wk_range rfl R2.pop.pop⟩
    · exact q.elim
end

/-! ### enumerate, zip: from the library's Goes -/
/-- a list or a tuple -/
inductive SK where
  | l
  | t
def Sq (K : PySem.W.Frag) (H : Hp) : SK → Addr → List V → Prop
  | .l, a, xs => SqL K H a xs
  | .t, a, xs => SqT K H a xs
def IsSq (h : Heap) : SK → Addr → Array Value → Prop
  | .l, a, its => h.IsList a its
  | .t, a, its => h.IsTuple a its
def IsIt (h : Heap) : SK → Addr → Addr → Nat → Prop
  | .l, it, a, i => h.IsListIter it a i
  | .t, it, a, i => h.IsTupleIter it a i
def itObj : SK → Addr → Obj
  | .l, a => { cls := .type "list_iterator", data := .fields #[.ref a, .int 0 0] }
  | .t, a => { cls := .type "tuple_iterator", data := .fields #[.ref a, .int 0 0] }
section
variable {X : Cx} {pins : List (Addr × Obj)} {σ : L2.St} {H : Hp} {s : Shared} {a : Addr} {xs : List V}
theorem sq_is (I : Inv X pins σ H s) {k : SK} (h : Sq X.K H k a xs) : ∃ its : List Value, Vals xs its ∧ IsSq s.heap k a its.toArray ∧ xs.length ≤ sizeLine := by
  cases k with
  | l => obtain ⟨its, r, p, z⟩ := I.list h; exact ⟨its, r, p.isList, z⟩
  | t => obtain ⟨its, r, p, z⟩ := I.tuple h; exact ⟨its, r, p, z⟩
theorem sq_inj (I : Inv X pins σ H s) {k : SK} {ys : List V} (h : Sq X.K H k a xs) (h' : Sq X.K H k a ys) : xs = ys := by
  cases k with
  | l => exact I.list_inj h h'
  | t => exact I.tuple_inj h h'
theorem IsSq.lt {h : Heap} {k : SK} {its : Array Value} (x : IsSq h k a its) : a < h.objs.size := by
  cases k with
  | l => obtain ⟨o, e, _⟩ := x; exact Heap.lt_size e
  | t => obtain ⟨o, e, _⟩ := x; exact Heap.lt_size e
theorem IsIt.at_ {h h' : Heap} {k : SK} {it : Addr} {i : Nat} (x : IsIt h k it a i) (q : ∀ o, h.get? it = some o → h'.get? it = some o) : IsIt h' k it a i := by
  cases k with
  | l => exact Heap.IsListIter.at x q
  | t => exact Heap.IsTupleIter.at x q
theorem IsIt.obj {h : Heap} {k : SK} {it : Addr} {i : Nat} (x : IsIt h k it a i) : ∃ o, h.get? it = some o ∧ ∀ v, o.data ≠ .cell v := by
  cases k with
  | l => obtain ⟨o, e, _, d⟩ := x; exact ⟨o, e, fun v z => by rw [d] at z; cases z⟩
  | t => obtain ⟨o, e, _, d⟩ := x; exact ⟨o, e, fun v z => by rw [d] at z; cases z⟩
theorem isIt_new {h : Heap} {k : SK} {it : Addr} (e : h.get? it = some (itObj k a)) : IsIt h k it a 0 := by
  cases k with
  | l => exact ⟨_, e, rfl, rfl⟩
  | t => exact ⟨_, e, rfl, rfl⟩
theorem begins_k (k : SK) (a : Addr) (its : Array Value) : Begins (.ref a) (itObj k a) fun h => IsSq h k a its := by
  cases k with
  | l => exact begins_list a its
  | t => exact begins_tuple a its
theorem draws_k {prog : Program} {w : World} {A : Around} (hh : A.handled = none) (k : SK) (it a : Addr) (hne : a ≠ it) (its : Array Value) : Draws prog w A it [it, a] its.size (fun i v => its[i]? = some v) (fun i h => IsIt h k it a i ∧ IsSq h k a its) := by
  cases k with
  | l => exact Draws.list hh it a hne its
  | t => exact Draws.tuple hh it a hne its
end

/-- tuples made anew at each turn, of what stands there now -/
def ItP (P : Nat → (Nat → List V) → Hp → Prop) : It :=
  ⟨fun i H => ∃ n val, P n val H ∧ i < n, fun i H v H' => ∃ T us, v = .ref T ∧ H T = none ∧ H' = upd H T (.tup us) ∧ ∀ n val, P n val H → us = val i, fun i H => ∃ val, P i val H⟩
theorem turn_pairs {P : Program} {w : World} {K : PySem.W.Frag} {elts : List Expr} {kk : Nat} {tpos : Pos} {I0 : Addr} {own wr : List Addr} {Pv : Nat → (Nat → List V) → Hp → Prop} {Tn : Nat → Heap → Prop}
    (mem : I0 ∈ own) (hwr : ∀ b ∈ wr, b ∈ own) (hval : ∀ n val H i, Pv n val H → (val i).length ≤ 10)
    (inj : ∀ (X : Cx) pins σ H s n val n' val', X.K = K → Inv X pins σ H s → Pv n val H → Pv n' val' H → val = val')
    (obj : ∀ i h, Tn i h → ∀ b ∈ own, ∃ o, h.get? b = some o ∧ ∀ v, o.data ≠ .cell v)
    (keep : ∀ i h h', Tn i h → (∀ b ∈ own, ∀ o, h.get? b = some o → h'.get? b = some o) → Tn i h')
    (self : ∀ (A : Around) (i : Nat) (s : Shared) (Q : Value → Shared → Prop) (E : Value → Shared → Prop), Tn i s.heap → Q (.ref I0) s → wpAny (model P w) A (pyIter (.ref I0)) Q E s)
    (W : ∀ (X : Cx), X.prog = P → X.w = w → X.K = K → X.calm = true → ∀ (pins : List (Addr × Obj)) (σ : L2.St) (H : Hp) (s : Shared) (n : Nat) (val : Nat → List V) (i : Nat), Inv X pins σ H s → Tn i s.heap → Pv n val H → ∃ (Bh : Heap → Prop) (fp : List Addr), Bh s.heap ∧
      GoesN P w X.A (.Tuple elts kk tpos) I0 fp wr n (fun i h₀ v h => ∃ T us, v = .ref T ∧ h₀.objs.size ≤ T ∧ (i < n → Vals (val i) us) ∧ h.IsTuple T us.toArray) (fun i h => Tn i h ∧ Bh h)) :
    Turn P w K (.Tuple elts kk tpos) (ItP Pv) own I0 Tn where
  mem := mem
  obj := obj
  keep := keep
  item := by
    intro X hP hw hK hc i pins s σ H E I hf st hg
    obtain ⟨n, val, hp, hi⟩ := hg
    obtain ⟨Bh, fp, hB, G⟩ := W X hP hw hK hc pins σ H s n val i I st hp
    subst hP hw
    refine wpAny_mono (G.goes i s (fun v s2 => ∃ x H', Inv X pins σ H' s2 ∧ RelV x v ∧ (ItP Pv).yld i H x H' ∧ Tn (i + 1) s2.heap ∧ ∀ b ∈ own, H' b = none) E hi ⟨st, hB⟩ fun v h' tk hY st' hk _ => ?_) (fun r s1 ⟨u, e, q⟩ => ⟨u, e, q⟩) (fun _ _ z => z)
    obtain ⟨T, us, rfl, hT, rv, it⟩ := hY
    have hn : H T = none := I.hok.fresh hT
    have new : ObjOk X.prog X.w (upd H T (.tup (val i))) h' T (.tup (val i)) := ⟨Nat.le_trans (hval n val H i hp) (by rw [sizeLine_eq]; omega), us, rv hi, it⟩
    refine ⟨.ref T, _, I.turnedNew (ch := own) (fun b o hb e => hk b o (fun z => hb (hwr b z)) e) hf hT new, rfl, ⟨T, _, rfl, hn, rfl, fun n' val' hp' => by rw [inj X pins σ H s n val n' val' hK I hp hp']⟩, st'.1, fun b hb => ?_⟩
    obtain ⟨o, e, _⟩ := obj i s.heap st b hb
    rw [upd_ne (Nat.ne_of_lt (Nat.lt_of_lt_of_le (Heap.lt_size e) hT))]
    exact (hf b hb).1
  done := by
    intro X hP hw hK hc i pins s σ H E I hf st hg
    obtain ⟨val, hp⟩ := hg
    obtain ⟨Bh, fp, hB, G⟩ := W X hP hw hK hc pins σ H s i val i I st hp
    subst hP hw
    exact G.stops s (fun s1 => Inv X pins σ H s1) E ⟨st, hB⟩ fun h' tk hk _ => I.turnedL (ch := own) (fun b o hb e => hk b o (fun z => hb (hwr b z)) e) hf
  self := self
theorem GoesN.stIff {prog : Program} {w : World} {A : Around} {tg : Expr} {I : Addr} {fp wr : List Addr} {n : Nat} {Y : Nat → Heap → Value → Heap → Prop} {St St' : Nat → Heap → Prop} (e : ∀ i h, St i h ↔ St' i h) (W : GoesN prog w A tg I fp wr n Y St) : GoesN prog w A tg I fp wr n Y St' := by
  have : St = St' := funext fun i => funext fun h => propext (e i h)
  exact this ▸ W

/-! enumerate -/
theorem meets_enumerate_newB1 {v : Value} {o : Obj} {H : Heap → Prop} (B : Begins v o H) :
    Meets (Builtin.«enumerate.__new__» ⟨[.type "enumerate", v], []⟩) (fun _ R s => H s.heap ∧
      R (.ok (.ret (.ref (s.heap.push o).objs.size))) { s with heap := (s.heap.push o).push { cls := .type "enumerate", data := .fields #[.none, .bool false, .ref s.heap.objs.size, rawInt 0, .none, .none] } }) :=
  .of_wp fun prog w A R s h => by
    obtain ⟨hp, g, d, tk, os⟩ := s; obtain ⟨h1, h⟩ := h
    have hsub := sub_enumerate
    have q1 : ∀ {A' : Around} {E : Value → Shared → Prop} {Q : Value → Shared → Prop}, Q (.ref hp.objs.size) ⟨hp.push o, g, d, tk, os⟩ → wpAny (model prog w) A' (pyIter v) Q E ⟨hp, g, d, tk, os⟩ :=
      fun q => B.iter prog w _ _ ⟨hp, g, d, tk, os⟩ _ h1 q
    wp_walk using q1
    refine wpAny_stack_any fun st => wpAny_pure ?_
    split
    · rename_i c _ _ _ _ _
      cases (c == Value.type "enumerate")
      · wp_walk using q1
        exact ⟨_, rfl, h⟩
      · wp_walk using q1
        exact ⟨_, rfl, h⟩
    · wp_walk using q1
      exact ⟨_, rfl, h⟩
section
variable {prog : Program} {w : World} {A : Around} {E : Value → Shared → Prop} {s : Shared}
theorem enum_begins1 {v : Value} {o : Obj} {H : Heap → Prop} {Q : Value → Shared → Prop} (B : Begins v o H) (h1 : H s.heap)
    (h : ∀ h', IsEnum h' (s.heap.objs.size + 1) s.heap.objs.size 0 .none → h'.get? s.heap.objs.size = some o → h'.objs.size = s.heap.objs.size + 2 →
      (∀ b o, s.heap.get? b = some o → h'.get? b = some o) → Q (.ref (s.heap.objs.size + 1)) { s with heap := h' }) :
    wpAny (model prog w) A (call (.type "enumerate") [v]) Q E s := by
  refine callType_new F.called_enumerate (by decide) (F.typeCall_enumerate_1 _) (F.newCall_enumerate_1 _) (fun obj => F.args_object_init_2 obj _) F.entry_enumerate_new
    (meets_enumerate_newB1 B) ⟨h1, ?_⟩
  have hz : (s.heap.push o).objs.size = s.heap.objs.size + 1 := Heap.size_push ..
  show _ ∧ _
  rw [hz]
  have he : IsEnum ((s.heap.push o).push { cls := .type "enumerate", data := .fields #[.none, .bool false, .ref s.heap.objs.size, rawInt 0, .none, .none] }) (s.heap.objs.size + 1) s.heap.objs.size 0 .none := by
    have := Heap.get?_push_size (s.heap.push o) (o := { cls := .type "enumerate", data := .fields #[.none, .bool false, .ref s.heap.objs.size, rawInt 0, .none, .none] }) rfl
    rw [hz] at this; exact this
  refine ⟨⟨_, he, rfl⟩, h _ he (Heap.get?_push_of_some _ (Heap.get?_push_size _ B.free)) (by rw [Heap.size_push, hz]) fun b o x => Heap.get?_push_of_some _ (Heap.get?_push_of_some _ x)⟩
end
def PvE (K : PySem.W.Frag) (k : SK) (a : Addr) : Nat → (Nat → List V) → Hp → Prop := fun n val H => ∃ xs, Sq K H k a xs ∧ n = xs.length ∧ val = fun i => [.int ((i : Nat) : Int), (xs[i]?).getD .non]
theorem turn_enumK {P : Program} {w : World} {K : PySem.W.Frag} {elts : List Expr} {kk : Nat} {tpos : Pos} (k : SK) (a e it : Addr) (hne : e ≠ it) (hea : a ≠ e) (hia : a ≠ it) :
    Turn P w K (.Tuple elts kk tpos) (ItP (PvE K k a)) [e, it] e (fun i h => (∃ old, IsEnum h e it ((0 : Int) + (i : Int)) old) ∧ IsIt h k it a i) := by
  refine turn_pairs (wr := [e, it]) (by simp) (fun b h => h) (fun n val H i ⟨xs, _, _, e⟩ => by rw [e]; simp) ?_ ?_ ?_ ?_ ?_
  · rintro X pins σ H s n val n' val' rfl I ⟨xs, h1, rfl, rfl⟩ ⟨ys, h2, rfl, rfl⟩
    rw [sq_inj I h1 h2]
  · intro i h st b hb
    obtain ⟨⟨old, he⟩, hi⟩ := st
    rcases (by simpa using hb : b = e ∨ b = it) with z | z
    · rw [z]; exact ⟨_, he, fun v q => nomatch q⟩
    · rw [z]; exact hi.obj
  · exact fun i h h' st q => let ⟨⟨old, he⟩, hi⟩ := st; ⟨⟨old, q e (by simp) _ he⟩, hi.at_ fun o z => q it (by simp) o z⟩
  · exact fun A i s Q E st h => let ⟨⟨_, he⟩, _⟩ := st; wpAny_pyIter_enum he h
  · intro X hP hw hK hc pins σ H s n val i I st hp
    subst hP hw hK
    obtain ⟨xs, hq, rfl, rfl⟩ := hp
    obtain ⟨its, rv, p, hz⟩ := sq_is I hq
    have hh : X.A.in1.handled = none := I.ok.hd hc
    refine ⟨fun h => IsSq h k a its.toArray, e :: [it, a], p, GoesN.stIff (St := fun i h => (∃ old, IsEnum h e it ((0 : Int) + (i : Int)) old) ∧ IsIt h k it a i ∧ IsSq h k a its.toArray) (fun i h => by rw [and_assoc]) ?_⟩
    have D := draws_k (prog := X.prog) (w := X.w) hh k it a hia its.toArray
    have G := GoesN.enumFrom (elts := elts) (x1 := kk) (pos := tpos) 0 D e hne (by simp [hne, hea.symm]) (by simp)
    have hl : its.toArray.size = xs.length := by rw [List.size_toArray]; exact rv.length.symm
    rw [hl] at G
    refine G.mono fun i h₀ v h hi ⟨T, t, x, e1, hT, hx, it⟩ => ⟨T, [.int (0 + (i : Int)) t, x], e1, hT, fun _ => ?_, it⟩
    obtain ⟨u, hu, ru⟩ := rv.get (List.getElem?_eq_getElem hi)
    have : u = x := by
      have h2 : its.toArray[i]? = some u := by simpa using hu
      rw [hx] at h2; exact (Option.some.inj h2).symm
    subst this
    refine .cons ⟨t, by rw [Int.zero_add]⟩ (.cons ?_ .nil)
    rw [List.getElem?_eq_getElem hi]
    exact ru
def iEnumK (K : PySem.W.Frag) (ta : TA) : TI := fun σ H R => ta σ H fun vs H1 => ∃ k a xs, vs = [.ref a] ∧ Sq K H1 k a xs ∧ R (ItP (PvE K k a)) H1
theorem pi_enumK {X : Cx} {e : Expr} {ta : TA} {p pos tpos : Pos} {elts : List Expr} {kk : Nat} (hg : Gl X "enumerate") (hm : X.mg "enumerate" = none) (ha : PA X [e] ta) (hs : starEach [e] X.env = [(false, eval e X.env)] := by rfl) :
    PI X (.Tuple elts kk tpos) (.Call (.Name "enumerate" p) [e] [] pos) (iEnumK X.K ta) := by
  refine ⟨fun pins s σ H R I h => ?_⟩
  refine Call_ (ld_blt I hg hm boot_enumerate (PyProof.Rows.callWith_type1 (thn (ha.run pos pins s σ H _ I h) fun us s1 ⟨vs, H1, I1, r1, q1⟩ => ?_) hs rfl))
  obtain ⟨k, a, xs, ex, hq, q⟩ := q1
  subst ex
  cases r1 with
  | cons r rr =>
    cases rr
    cases r
    obtain ⟨its, rv, p', hz⟩ := sq_is I1 hq
    refine enum_begins1 (begins_k k a its.toArray) p' fun h' he hit hsz hk => wpAny_pyIter_enum he ?_
    have I2 : Inv X pins σ H1 { s1 with heap := h' } := I1.kept (t' := s1.toks) hk
    have la := p'.lt
    refine ⟨s1.heap.objs.size + 1, [s1.heap.objs.size + 1, s1.heap.objs.size], _, _, H1, rfl, I2, turn_enumK k a (s1.heap.objs.size + 1) s1.heap.objs.size (Nat.succ_ne_self _) (Nat.ne_of_lt (Nat.lt_succ_of_lt la)) (Nat.ne_of_lt la), ⟨⟨.none, he⟩, isIt_new hit⟩, fun b hb => ?_, q⟩
    have e' : b = s1.heap.objs.size + 1 ∨ b = s1.heap.objs.size := by simpa using hb
    have hle : s1.heap.objs.size ≤ b := by
      rcases e' with z | z
      · rw [z]; exact Nat.le_add_right _ _
      · rw [z]; exact Nat.le_refl _
    exact I1.fpOk hle (I1.hok.fresh hle)

/-! zip of two -/
def PvZ (K : PySem.W.Frag) (k1 k2 : SK) (a b : Addr) : Nat → (Nat → List V) → Hp → Prop := fun n val H => ∃ xs ys, Sq K H k1 a xs ∧ Sq K H k2 b ys ∧ n = min xs.length ys.length ∧ val = fun i => [(xs[i]?).getD .non, (ys[i]?).getD .non]
theorem turn_zipK {P : Program} {w : World} {K : PySem.W.Frag} {elts : List Expr} {kk : Nat} {tpos : Pos} (k1 k2 : SK) (a b N : Addr) (ha : a < N) (hb : b < N) :
    Turn P w K (.Tuple elts kk tpos) (ItP (PvZ K k1 k2 a b)) [N + 4, N + 2, N + 3, N, N + 1] (N + 4) (fun i h => IsZip h (N + 4) (N + 2) (N + 3) .none ∧ IsTupOf2 h (N + 2) (.ref N) (.ref (N + 1)) ∧ (∃ a1 a2, IsTupOf2 h (N + 3) a1 a2) ∧ IsIt h k1 N a i ∧ IsIt h k2 (N + 1) b i) := by
  refine turn_pairs (wr := [N + 4, N + 3, N, N + 1]) (by simp) (fun b h => ?_) (fun n val H i ⟨xs, ys, _, _, _, e⟩ => by rw [e]; simp) ?_ ?_ ?_ ?_ ?_
  · rcases (by simpa using h : b = N + 4 ∨ b = N + 3 ∨ b = N ∨ b = N + 1) with z | z | z | z <;> (rw [z]; simp)
  · rintro X pins σ H s n val n' val' rfl I ⟨xs, ys, h1, h2, rfl, rfl⟩ ⟨xs', ys', h3, h4, rfl, rfl⟩
    rw [sq_inj I h1 h3, sq_inj I h2 h4]
  · intro i h st c hc
    obtain ⟨hz, hTI, ⟨x, y, hTO⟩, h1, h2⟩ := st
    rcases (by simpa using hc : c = N + 4 ∨ c = N + 2 ∨ c = N + 3 ∨ c = N ∨ c = N + 1) with q | q | q | q | q
    · rw [q]; exact ⟨_, hz, fun v q => nomatch q⟩
    · rw [q]; exact ⟨_, hTI, fun v q => nomatch q⟩
    · rw [q]; exact ⟨_, hTO, fun v q => nomatch q⟩
    · rw [q]; exact h1.obj
    · rw [q]; exact h2.obj
  · intro i h h' st q
    obtain ⟨hz, hTI, ⟨x, y, hTO⟩, h1, h2⟩ := st
    exact ⟨q (N + 4) (by simp) _ hz, q (N + 2) (by simp) _ hTI, ⟨x, y, q (N + 3) (by simp) _ hTO⟩, h1.at_ fun o z => q N (by simp) o z, h2.at_ fun o z => q (N + 1) (by simp) o z⟩
  · exact fun A i s Q E st h => wpAny_pyIter_zip st.1 h
  · intro X hP hw hK hc pins σ H s n val i I st hp
    subst hP hw hK
    obtain ⟨xs, ys, hq1, hq2, rfl, rfl⟩ := hp
    obtain ⟨its1, rv1, p1, hz1⟩ := sq_is I hq1
    obtain ⟨its2, rv2, p2, hz2⟩ := sq_is I hq2
    have hh : X.A.in1.handled = none := I.ok.hd hc
    have n1 : a ≠ N := Nat.ne_of_lt ha
    have n2 : b ≠ N + 1 := Nat.ne_of_lt (Nat.lt_succ_of_lt hb)
    have D1 := draws_k (prog := X.prog) (w := X.w) hh k1 N a n1 its1.toArray
    have D2 := draws_k (prog := X.prog) (w := X.w) hh k2 (N + 1) b n2 its2.toArray
    refine ⟨fun h => IsSq h k1 a its1.toArray ∧ IsSq h k2 b its2.toArray, (N + 4) :: (N + 2) :: (N + 3) :: ([N, a] ++ [N + 1, b]), ⟨p1, p2⟩, GoesN.stIff (St := fun i h => IsZip h (N + 4) (N + 2) (N + 3) .none ∧ IsTupOf2 h (N + 2) (.ref N) (.ref (N + 1)) ∧ (∃ a1 a2, IsTupOf2 h (N + 3) a1 a2) ∧ (IsIt h k1 N a i ∧ IsSq h k1 a its1.toArray) ∧ (IsIt h k2 (N + 1) b i ∧ IsSq h k2 b its2.toArray)) (fun i h => ⟨fun ⟨x1, x2, x3, ⟨x4, x5⟩, x6, x7⟩ => ⟨⟨x1, x2, x3, x4, x6⟩, x5, x7⟩, fun ⟨⟨x1, x2, x3, x4, x6⟩, x5, x7⟩ => ⟨x1, x2, x3, ⟨x4, x5⟩, x6, x7⟩⟩) ?_⟩
    have G := GoesN.zip2 (elts := elts) (x1 := kk) (pos := tpos) (zip_sep2 (N := N) (fp1 := [a]) (fp2 := [b]) (fun c h => by rw [List.mem_singleton.mp h]; exact ha) (fun c h => by rw [List.mem_singleton.mp h]; exact hb)) D1 D2
    have hl1 : its1.toArray.size = xs.length := by rw [List.size_toArray]; exact rv1.length.symm
    have hl2 : its2.toArray.size = ys.length := by rw [List.size_toArray]; exact rv2.length.symm
    rw [hl1, hl2] at G
    refine G.mono fun i h₀ v h hi ⟨T, x, y, e1, hT, hx, hy, it⟩ => ⟨T, [x, y], e1, hT, fun _ => ?_, it⟩
    obtain ⟨u, hu, ru⟩ := rv1.get (List.getElem?_eq_getElem (Nat.lt_of_lt_of_le hi (Nat.min_le_left _ _)))
    obtain ⟨u2, hu2, ru2⟩ := rv2.get (List.getElem?_eq_getElem (Nat.lt_of_lt_of_le hi (Nat.min_le_right _ _)))
    have e1 : u = x := by
      have h2 : its1.toArray[i]? = some u := by simpa using hu
      rw [hx] at h2; exact (Option.some.inj h2).symm
    have e2 : u2 = y := by
      have h2 : its2.toArray[i]? = some u2 := by simpa using hu2
      rw [hy] at h2; exact (Option.some.inj h2).symm
    subst e1 e2
    show Vals [(xs[i]?).getD .non, (ys[i]?).getD .non] _
    rw [List.getElem?_eq_getElem (Nat.lt_of_lt_of_le hi (Nat.min_le_left _ _)), List.getElem?_eq_getElem (Nat.lt_of_lt_of_le hi (Nat.min_le_right _ _))]
    exact .cons ru (.cons ru2 .nil)
def iZipK (K : PySem.W.Frag) (ta : TA) : TI := fun σ H R => ta σ H fun vs H1 => ∃ k1 k2 a b xs ys, vs = [.ref a, .ref b] ∧ Sq K H1 k1 a xs ∧ Sq K H1 k2 b ys ∧ R (ItP (PvZ K k1 k2 a b)) H1
theorem pi_zipK {X : Cx} {e e2 : Expr} {ta : TA} {p pos tpos : Pos} {elts : List Expr} {kk : Nat} (hg : Gl X "zip") (hm : X.mg "zip" = none) (ha : PA X [e, e2] ta)
    (hs : starEach [e, e2] X.env = (false, eval e X.env) :: starEach [e2] X.env := by rfl) (hpl : (backTo pos (starEach [e2] X.env)).any (·.1) = false := by rfl) :
    PI X (.Tuple elts kk tpos) (.Call (.Name "zip" p) [e, e2] [] pos) (iZipK X.K ta) := by
  refine ⟨fun pins s σ H R I h => ?_⟩
  refine Call_ (ld_blt I hg hm PyProof.Rows.boot_zip (PyProof.Rows.callWith_type1 (thn (ha.run pos pins s σ H _ I h) fun us s1 ⟨vs, H1, I1, r1, q1⟩ => ?_) hs hpl))
  obtain ⟨k1, k2, a, b, xs, ys, ex, hq1, hq2, q⟩ := q1
  subst ex
  cases r1 with
  | cons r rr =>
    cases rr with
    | cons r' rr =>
      cases rr
      cases r
      cases r'
      obtain ⟨its, rv, p1, _⟩ := sq_is I1 hq1
      obtain ⟨its2, rv2, p2, _⟩ := sq_is I1 hq2
      refine zip_begins2 (begins_k k1 a its.toArray) (begins_k k2 b its2.toArray) p1 p2 fun h' hz hTI hTO g1 g2 hsz hk => wpAny_pyIter_zip hz ?_
      have I2 : Inv X pins σ H1 { s1 with heap := h' } := I1.kept (t' := s1.toks) hk
      refine ⟨s1.heap.objs.size + 4, [s1.heap.objs.size + 4, s1.heap.objs.size + 2, s1.heap.objs.size + 3, s1.heap.objs.size, s1.heap.objs.size + 1], _, _, H1, rfl, I2, turn_zipK k1 k2 a b s1.heap.objs.size p1.lt p2.lt, ⟨hz, hTI, ⟨_, _, hTO⟩, isIt_new g1, isIt_new g2⟩, fun c hcm => ?_, q⟩
      have e' : c = s1.heap.objs.size + 4 ∨ c = s1.heap.objs.size + 2 ∨ c = s1.heap.objs.size + 3 ∨ c = s1.heap.objs.size ∨ c = s1.heap.objs.size + 1 := by simpa using hcm
      have hle : s1.heap.objs.size ≤ c := by
        rcases e' with z | z | z | z | z
        · rw [z]; exact Nat.le_add_right _ _
        · rw [z]; exact Nat.le_add_right _ _
        · rw [z]; exact Nat.le_add_right _ _
        · rw [z]; exact Nat.le_refl _
        · rw [z]; exact Nat.le_add_right _ _
      exact I1.fpOk hle (I1.hok.fresh hle)

/-! ### .. over data -/
def itemsD : PyData → Option (List PyData)
  | .list ds => some ds
  | .tuple ds => some ds
  | _ => none
def kD : PyData → SK
  | .list _ => .l
  | _ => .t
section
variable {K : PySem.W.Frag} {B : Ba} {lv : List (Nat × V)} {st tm : List Vl} {σ : L2.St} {tv : List V} {H : Hp} {F : Addr → Prop} {O : Addr → Option Ow} {v v2 v3 : V} {d d2 d3 : Vl}
theorem RelX.seq {x : PyData} {ds : List PyData} (R : RelX K B lv st (d :: tm) σ (v :: tv) H F O) (e : pyO st d = some x) (i : itemsD x = some ds) : ∃ a vs, v = .ref a ∧ Sq K H (kD x) a vs ∧ RpA K F H vs ds := by
  cases x with
  | list xs => cases i; exact R.lst e
  | tuple xs => cases i; exact R.tup e
  | _ => cases i
def enumD (k : Nat) : List PyData → List PyData
  | [] => []
  | d :: ds => .tuple [.int (k : Int), d] :: enumD (k + 1) ds
theorem enumD_len : ∀ (ds : List PyData) (k : Nat), (enumD k ds).length = ds.length
  | [], _ => rfl
  | _ :: ds, k => congrArg (· + 1) (enumD_len ds (k + 1))
theorem enumD_at : ∀ (ds : List PyData) (k i : Nat), (enumD k ds)[i]? = (ds[i]?).map fun d => .tuple [.int ((k + i : Nat) : Int), d]
  | [], _, i => by simp [enumD]
  | d :: ds, k, 0 => by simp [enumD]
  | d :: ds, k, i + 1 => by
    rw [enumD, List.getElem?_cons_succ, List.getElem?_cons_succ, enumD_at ds (k + 1) i]
    congr 1
    funext x
    rw [show k + 1 + i = k + (i + 1) by omega]
def zip2D (as bs : List PyData) : List PyData := List.zipWith (fun a b => .tuple [a, b]) as bs
theorem wk_enum {a : Addr} {x : PyData} {ds : List PyData} (hi : itemsD x = some ds) : Wk K B (ItP (PvE K (kD x) a)) (enumD 0 ds) [d] [.ref a] (fun st => pyO st d = some x) where
  go := fun lv st tm σ tv H i y hc R e => by
    obtain ⟨F, O, R⟩ := R
    obtain ⟨a', vs, e1, h1, r⟩ := R.seq hc hi
    cases e1
    rw [enumD_at] at e
    obtain ⟨z, hz, rfl⟩ := Option.map_eq_some_iff.mp e
    obtain ⟨w, hw, rw'⟩ := r.get hz
    have hl : i < vs.length := by
      by_cases h : i < vs.length
      · exact h
      · rw [List.getElem?_eq_none (Nat.not_lt.mp h)] at hw; cases hw
    refine ⟨⟨_, _, ⟨vs, h1, rfl, rfl⟩, hl⟩, fun y H' q => ?_⟩
    obtain ⟨T, us, rfl, hn, rfl, q⟩ := q
    have hu := q _ _ ⟨vs, h1, rfl, rfl⟩
    rw [hu, Nat.zero_add]
    refine ⟨F, O, R.newTup hn (.cons (.int _) (.cons ?_ .nil))⟩
    rw [hw]
    exact rw'
  stop := fun lv st tm σ tv H hc R => by
    obtain ⟨F, O, R⟩ := R
    obtain ⟨a', vs, e1, h1, r⟩ := R.seq hc hi
    cases e1
    exact ⟨_, vs, h1, by rw [enumD_len, r.length], rfl⟩
theorem wk_zip {a b : Addr} {x y : PyData} {ds es : List PyData} (hi : itemsD x = some ds) (hj : itemsD y = some es) : Wk K B (ItP (PvZ K (kD x) (kD y) a b)) (zip2D ds es) [d2, d] [.ref b, .ref a] (fun st => pyO st d = some x ∧ pyO st d2 = some y) where
  go := fun lv st tm σ tv H i y hc R e => by
    obtain ⟨F, O, R⟩ := R
    obtain ⟨a', vs, e1, h1, r1⟩ := R.pop.seq hc.1 hi
    cases e1
    obtain ⟨b', ws, e2, h2, r2⟩ := R.seq hc.2 hj
    cases e2
    rw [zip2D, List.getElem?_zipWith] at e
    cases e1 : ds[i]? with
    | none => rw [e1] at e; cases e
    | some z1 =>
      cases e2 : es[i]? with
      | none => rw [e1, e2] at e; cases e
      | some z2 =>
        rw [e1, e2] at e
        cases e
        obtain ⟨w1, hw1, q1⟩ := r1.get e1
        obtain ⟨w2, hw2, q2⟩ := r2.get e2
        have l1 : i < vs.length := by
          by_cases h : i < vs.length
          · exact h
          · rw [List.getElem?_eq_none (Nat.not_lt.mp h)] at hw1; cases hw1
        have l2 : i < ws.length := by
          by_cases h : i < ws.length
          · exact h
          · rw [List.getElem?_eq_none (Nat.not_lt.mp h)] at hw2; cases hw2
        refine ⟨⟨_, _, ⟨vs, ws, h1, h2, rfl, rfl⟩, Nat.lt_min.mpr ⟨l1, l2⟩⟩, fun y H' q => ?_⟩
        obtain ⟨T, us, rfl, hn, rfl, q⟩ := q
        rw [q _ _ ⟨vs, ws, h1, h2, rfl, rfl⟩]
        refine ⟨F, O, R.newTup hn (.cons ?_ (.cons ?_ .nil))⟩
        · rw [hw1]; exact q1
        · rw [hw2]; exact q2
  stop := fun lv st tm σ tv H hc R => by
    obtain ⟨F, O, R⟩ := R
    obtain ⟨a', vs, e1, h1, r1⟩ := R.pop.seq hc.1 hi
    cases e1
    obtain ⟨b', ws, e2, h2, r2⟩ := R.seq hc.2 hj
    cases e2
    refine ⟨_, vs, ws, h1, h2, ?_, rfl⟩
    rw [zip2D, List.length_zipWith, r1.length, r2.length]
end
def cEnum (ta : DTA) : DTI := fun st Q => ta st fun ds st' => match ds with
  | [d] => (match pyO st' d with
    | some x => (match itemsD x with
      | some xs => Q (enumD 0 xs) [d] (fun st => pyO st d = some x) st'
      | _ => False)
    | _ => False)
  | _ => False
def cZip2 (ta : DTA) : DTI := fun st Q => ta st fun ds st' => match ds with
  | [d, d2] => (match pyO st' d, pyO st' d2 with
    | some x, some y => (match itemsD x, itemsD y with
      | some xs, some ys => Q (zip2D xs ys) [d2, d] (fun st => pyO st d = some x ∧ pyO st d2 = some y) st'
      | _, _ => False)
    | _, _ => False)
  | _ => False
section
variable {X : Cx} {B : Ba} {lk : List Nat} {elts : List Expr} {kk : Nat} {tpos : Pos}
theorem di_enum {e : Expr} {ta : DTA} {p pos : Pos} (hg : Gl X "enumerate") (hm : X.mg "enumerate" = none) (ha : DA X B lk [e] ta) (hs : starEach [e] X.env = [(false, eval e X.env)] := by rfl) : DI X B lk (.Tuple elts kk tpos) (.Call (.Name "enumerate" p) [e] [] pos) (cEnum ta) :=
  PI.weak (pi_enumK hg hm ha hs) fun σ H R ⟨lv, st, tm, tv, Q0, L, Rl, h, k⟩ => by
    refine ⟨lv, st, tm, tv, _, L, Rl, h, fun ds st' vs H' q hl R' => ?_⟩
    split at q
    · rename_i d
      match vs, hl with
      | [v], _ =>
        have R2 : Rel X.K B lv st' (d :: tm) σ (v :: tv) H' := R'
        split at q
        · rename_i x e1
          split at q
          · rename_i xs e2
            obtain ⟨F, O, R3⟩ := R2
            obtain ⟨a, ws, rfl, h1, r⟩ := R3.seq e1 e2
            exact ⟨_, a, ws, rfl, h1, k _ [d] _ st' [.ref a] _ _ q (wk_enum e2) rfl ⟨F, O, R3⟩⟩
          · exact q.elim
        · exact q.elim
    · exact q.elim
theorem di_zip2 {e e2 : Expr} {ta : DTA} {p pos : Pos} (hg : Gl X "zip") (hm : X.mg "zip" = none) (ha : DA X B lk [e, e2] ta) (hs : starEach [e, e2] X.env = (false, eval e X.env) :: starEach [e2] X.env := by rfl) (hpl : (backTo pos (starEach [e2] X.env)).any (·.1) = false := by rfl) :
    DI X B lk (.Tuple elts kk tpos) (.Call (.Name "zip" p) [e, e2] [] pos) (cZip2 ta) :=
  PI.weak (pi_zipK hg hm ha hs hpl) fun σ H R ⟨lv, st, tm, tv, Q0, L, Rl, h, k⟩ => by
    refine ⟨lv, st, tm, tv, _, L, Rl, h, fun ds st' vs H' q hl R' => ?_⟩
    split at q
    · rename_i d d2
      match vs, hl with
      | [v, v2], _ =>
        have R2 : Rel X.K B lv st' (d2 :: d :: tm) σ (v2 :: v :: tv) H' := R'
        split at q
        · rename_i x y e1 e3
          split at q
          · rename_i xs ys e2 e4
            obtain ⟨F, O, R3⟩ := R2
            obtain ⟨b, us, rfl, h2, r2⟩ := R3.seq e3 e4
            obtain ⟨a, ws, rfl, h1, r⟩ := R3.pop.seq e1 e2
            exact ⟨_, _, a, b, ws, us, rfl, h1, h2, k _ [d2, d] _ st' [.ref b, .ref a] _ _ q (wk_zip e2 e4) rfl ⟨F, O, R3⟩⟩
          · exact q.elim
        · exact q.elim
    · exact q.elim
end
end DL

/-! The data layer, part 8: built-in functions, slices, list methods, x[i] = e. -/
namespace DL
open PySem PySem.Spec PyProof.Rows L2

/-! ### a built-in function -/
abbrev GF := List Vl → List Vl → (Vl → Prop) → Prop
def FOk (K : PySem.W.Frag) (B : Ba) (g : GF) (r : List V → Hp → VK → Prop) : Prop := ∀ lv st tm σ tv H ds vs Q0 (Q : VK), vs.length = ds.length → Rel K B lv st (ds.reverse ++ tm) σ (vs.reverse ++ tv) H → g st ds Q0 →
  (∀ d w H', Q0 d → Rel K B lv st (d :: tm) σ (w :: tv) H' → Q w H') → r vs H Q
def cFn (g : GF) (ta : DTA) : DT := fun st Q => ta st fun ds st' => g st' ds fun d => Q d st'
section
variable {X : Cx} {B : Ba} {lk : List Nat} {e : Expr} {es : List Expr} {t : DTA} {p pos : Pos} {x : Str} {id T : String} {g : GF} {r : List V → Hp → VK → Prop}
theorem fn_weak {K : PySem.W.Frag} (ok : FOk K B g r) {σ : L2.St} {H : Hp} {Q : VK} (h : LE K B lk (cFn g t) σ H Q) : tCB r (LA K B lk t) σ H Q := by
  obtain ⟨lv, st, tm, tv, Q0, L, R, h, k⟩ := h
  exact ⟨lv, st, tm, tv, _, L, R, h, fun ds st' vs H' q hl R' => ok _ _ _ _ _ _ _ _ _ _ hl R' q fun d w H2 q2 R2 => k _ _ _ _ q2 R2⟩
theorem de_fnB (hc : CallR X (.builtin id) r) (ok : FOk X.K B g r) (hg : Gl X x) (hm : X.mg x = none) (hv : bootBuiltins x = some (.builtin id)) (ha : DA X B lk (e :: es) t) (hn : x ≠ "__name__" := by decide) (hdb : (x == ("__debug__" : Str)) = false := by decide)
    (he : starEach (e :: es) X.env = (false, eval e X.env) :: starEach es X.env := by rfl) (hpl : (backTo pos (starEach es X.env)).any (·.1) = false := by rfl) : DE X B lk (.Call (.Name x p) (e :: es) [] pos) (cFn g t) :=
  PE.weak (pe_callB hc hg hm hv ha hn hdb he hpl) fun _ _ _ h => fn_weak ok h
theorem de_fnT (hc : CallR X (.type T) r) (ok : FOk X.K B g r) (hg : Gl X x) (hm : X.mg x = none) (hv : bootBuiltins x = some (.type T)) (ha : DA X B lk (e :: es) t) (hn : x ≠ "__name__" := by decide) (hdb : (x == ("__debug__" : Str)) = false := by decide)
    (he : starEach (e :: es) X.env = (false, eval e X.env) :: starEach es X.env := by rfl) (hpl : (backTo pos (starEach es X.env)).any (·.1) = false := by rfl) : DE X B lk (.Call (.Name x p) (e :: es) [] pos) (cFn g t) :=
  PE.weak (pe_callTy hc hg hm hv ha hn hdb he hpl) fun _ _ _ h => fn_weak ok h
/-- one argument -/
def F1Ok (K : PySem.W.Frag) (B : Ba) (g : List Vl → Vl → (Vl → Prop) → Prop) (r : List V → Hp → VK → Prop) : Prop := ∀ lv st tm σ tv H d v Q0 (Q : VK) F O, RelX K B lv st (d :: tm) σ (v :: tv) H F O → g st d Q0 →
  (∀ d w H', Q0 d → Rel K B lv st (d :: tm) σ (w :: tv) H' → Q w H') → r [v] H Q
def g1 (g : List Vl → Vl → (Vl → Prop) → Prop) : GF := fun st ds Q => match ds with
  | [d] => g st d Q
  | _ => False
theorem F1Ok.ok {K : PySem.W.Frag} {g : List Vl → Vl → (Vl → Prop) → Prop} {r : List V → Hp → VK → Prop} (h : F1Ok K B g r) : FOk K B (g1 g) r := fun lv st tm σ tv H ds vs Q0 Q hl R q k => by
  unfold g1 at q
  split at q
  · match vs, hl with
    | [v], _ =>
      have R' : Rel K B lv st (_ :: tm) σ (v :: tv) H := R
      obtain ⟨F, O, R'⟩ := R'
      exact h _ _ _ _ _ _ _ _ _ _ F O R' q k
  · exact q.elim
/-- two ints -/
def g2I (f : Int → Int → Int) : GF := fun st ds Q => match ds with
  | [.fr (.int i), .fr (.int j)] => Q (.fr (.int (f i j)))
  | _ => False
theorem g2I_ok {K : PySem.W.Frag} {f g : Int → Int → Int} (e : ∀ i j, g i j = f i j) : FOk K B (g2I f) (fun xs H Q => ∃ i j, xs = [.int i, .int j] ∧ Q (.int (g i j)) H) := fun lv st tm σ tv H ds vs Q0 Q hl R q k => by
  unfold g2I at q
  split at q
  · match vs, hl with
    | [v, w], _ =>
      have R' : Rel K B lv st (.fr (.int _) :: .fr (.int _) :: tm) σ (w :: v :: tv) H := R
      obtain rfl := R'.isInt
      obtain rfl := R'.pop.isInt
      exact ⟨_, _, rfl, by rw [e]; exact k _ _ _ q (R'.pop.pop.int _)⟩
  · exact q.elim

/-! len, abs, max, min of two, sum, any, all -/
def gLen : List Vl → Vl → (Vl → Prop) → Prop := fun st d Q => match pyO st d with
  | some (.list xs) => Q (.fr (.int xs.length))
  | some (.tuple xs) => Q (.fr (.int xs.length))
  | some (.str x) => x.length ≤ sizeLine ∧ Q (.fr (.int x.length))
  | _ => False
theorem gLen_ok {K : PySem.W.Frag} : F1Ok K B gLen (fun xs H Q => ∃ x n, xs = [x] ∧ LenV K x H n ∧ Q (.int n) H) := fun lv st tm σ tv H d v Q0 Q F O R q k => by
  unfold gLen at q
  split at q
  · rename_i xs e
    obtain ⟨a, vs, rfl, h, r⟩ := R.lst e
    exact ⟨_, _, rfl, .inl ⟨vs, h, rfl⟩, by rw [r.length]; exact k _ _ _ q ⟨F, O, R.pop.push (d := .fr (.int _)) (.int _)⟩⟩
  · rename_i xs e
    obtain ⟨a, vs, rfl, h, r⟩ := R.tup e
    exact ⟨_, _, rfl, .inr ⟨vs, h, rfl⟩, by rw [r.length]; exact k _ _ _ q ⟨F, O, R.pop.push (d := .fr (.int _)) (.int _)⟩⟩
  · rename_i x e
    obtain rfl := (R.scal e).2.2.2 x rfl
    exact ⟨_, _, rfl, ⟨q.1, rfl⟩, k _ _ _ q.2 ⟨F, O, R.pop.push (d := .fr (.int _)) (.int _)⟩⟩
  · exact q.elim
theorem de_len (hg : Gl X "len") (hm : X.mg "len" = none) (ha : DA X B lk (e :: es) t) (he : starEach (e :: es) X.env = (false, eval e X.env) :: starEach es X.env := by rfl) (hpl : (backTo pos (starEach es X.env)).any (·.1) = false := by rfl) :
    DE X B lk (.Call (.Name "len" p) (e :: es) [] pos) (cFn (g1 gLen) t) := de_fnB call_len gLen_ok.ok hg hm boot_len ha (he := he) (hpl := hpl)
def gAbs : List Vl → Vl → (Vl → Prop) → Prop := fun st d Q => match d with
  | .fr (.int i) => Q (.fr (.int (i.natAbs : Nat)))
  | _ => False
theorem de_max2 (hc : X.calm = true) (hg : Gl X "max") (hm : X.mg "max" = none) (ha : DA X B lk (e :: es) t) (he : starEach (e :: es) X.env = (false, eval e X.env) :: starEach es X.env := by rfl) (hpl : (backTo pos (starEach es X.env)).any (·.1) = false := by rfl) :
    DE X B lk (.Call (.Name "max" p) (e :: es) [] pos) (cFn (g2I fun i j => max i j) t) := de_fnB (call_max2 hc) (g2I_ok fun i j => by split <;> omega) hg hm boot_max ha (he := he) (hpl := hpl)
theorem de_min2 (hc : X.calm = true) (hg : Gl X "min") (hm : X.mg "min" = none) (ha : DA X B lk (e :: es) t) (he : starEach (e :: es) X.env = (false, eval e X.env) :: starEach es X.env := by rfl) (hpl : (backTo pos (starEach es X.env)).any (·.1) = false := by rfl) :
    DE X B lk (.Call (.Name "min" p) (e :: es) [] pos) (cFn (g2I fun i j => min i j) t) := de_fnB (call_min2 hc) (g2I_ok fun i j => by split <;> omega) hg hm boot_min ha (he := he) (hpl := hpl)
def gBools (f : List Bool → Bool) : List Vl → Vl → (Vl → Prop) → Prop := fun st d Q => ∃ bs : List Bool, pyO st d = some (.list (bs.map .bool)) ∧ Q (.fr (.bool (f bs)))
theorem gBools_ok {K : PySem.W.Frag} {f : List Bool → Bool} : F1Ok K B (gBools f) (fun vs H Q => ∃ (a : Addr) (bs : List Bool), vs = [V.ref a] ∧ SqL K H a (bs.map V.bl) ∧ Q (.bl (f bs)) H) := fun lv st tm σ tv H d v Q0 Q F O R q k => by
  obtain ⟨ns, e, q⟩ := q
  obtain ⟨a, vs, rfl, h, r⟩ := R.lst e
  obtain rfl := r.bools
  exact ⟨a, ns, rfl, h, k _ _ _ q ⟨F, O, R.pop.push (d := .fr (.bool _)) (.bl _)⟩⟩
theorem de_any (hc : X.calm = true) (hg : Gl X "any") (hm : X.mg "any" = none) (ha : DA X B lk (e :: es) t) (he : starEach (e :: es) X.env = (false, eval e X.env) :: starEach es X.env := by rfl) (hpl : (backTo pos (starEach es X.env)).any (·.1) = false := by rfl) :
    DE X B lk (.Call (.Name "any" p) (e :: es) [] pos) (cFn (g1 (gBools fun bs => bs.any _root_.id)) t) := de_fnB (cr_any hc) gBools_ok.ok hg hm (by decide +kernel) ha (he := he) (hpl := hpl)
theorem de_all (hc : X.calm = true) (hg : Gl X "all") (hm : X.mg "all" = none) (ha : DA X B lk (e :: es) t) (he : starEach (e :: es) X.env = (false, eval e X.env) :: starEach es X.env := by rfl) (hpl : (backTo pos (starEach es X.env)).any (·.1) = false := by rfl) :
    DE X B lk (.Call (.Name "all" p) (e :: es) [] pos) (cFn (g1 (gBools fun bs => bs.all _root_.id)) t) := de_fnB (cr_all hc) gBools_ok.ok hg hm (by decide +kernel) ha (he := he) (hpl := hpl)

/-! list, tuple -/
def gLst : List Vl → Vl → (Vl → Prop) → Prop := fun st d Q => match pyO st d with
  | some (.list xs) => Q (.ow xs)
  | some (.tuple xs) => Q (.ow xs)
  | _ => False
theorem gLst_ok {K : PySem.W.Frag} : F1Ok K B gLst (fun xs H Q => ∃ p ys, xs = [.ref p] ∧ (SqL K H p ys ∨ SqT K H p ys) ∧ ∀ l, H l = none → Q (.ref l) (upd H l (.lst ys))) := fun lv st tm σ tv H d v Q0 Q F O R q k => by
  unfold gLst at q
  split at q
  · rename_i xs e
    obtain ⟨a, vs, rfl, h, r⟩ := R.lst e
    exact ⟨_, _, rfl, .inl h, fun l hl => k _ _ _ q ⟨F, _, R.pop.newLst hl r⟩⟩
  · rename_i xs e
    obtain ⟨a, vs, rfl, h, r⟩ := R.tup e
    exact ⟨_, _, rfl, .inr h, fun l hl => k _ _ _ q ⟨F, _, R.pop.newLst hl r⟩⟩
  · exact q.elim
theorem de_list (hg : Gl X "list") (hm : X.mg "list" = none) (ha : DA X B lk (e :: es) t) (he : starEach (e :: es) X.env = (false, eval e X.env) :: starEach es X.env := by rfl) (hpl : (backTo pos (starEach es X.env)).any (·.1) = false := by rfl) :
    DE X B lk (.Call (.Name "list" p) (e :: es) [] pos) (cFn (g1 gLst) t) := de_fnT call_list_of gLst_ok.ok hg hm boot_list ha (he := he) (hpl := hpl)
def gTpl : List Vl → Vl → (Vl → Prop) → Prop := fun st d Q => match pyO st d with
  | some (.list xs) => Q (.fr (.tuple xs))
  | some (.tuple xs) => Q (.fr (.tuple xs))
  | _ => False
theorem gTpl_ok {K : PySem.W.Frag} : F1Ok K B gTpl (fun xs H Q => ∃ p ys, xs = [.ref p] ∧ ((SqL K H p ys ∧ ∀ l, H l = none → Q (.ref l) (upd H l (.tup ys))) ∨ (SqT K H p ys ∧ Q (.ref p) H))) := fun lv st tm σ tv H d v Q0 Q F O R q k => by
  unfold gTpl at q
  split at q
  · rename_i xs e
    obtain ⟨a, vs, rfl, h, r⟩ := R.lst e
    exact ⟨_, _, rfl, .inl ⟨h, fun l hl => k _ _ _ q ⟨F, _, R.pop.newTup hl r⟩⟩⟩
  · rename_i xs e
    obtain ⟨a, vs, rfl, h, r⟩ := R.tup e
    exact ⟨_, _, rfl, .inr ⟨h, k _ _ _ q ⟨F, O, R.pop.push (d := .fr _) (.tup h r)⟩⟩⟩
  · exact q.elim
theorem de_tuple (hg : Gl X "tuple") (hm : X.mg "tuple" = none) (ha : DA X B lk (e :: es) t) (he : starEach (e :: es) X.env = (false, eval e X.env) :: starEach es X.env := by rfl) (hpl : (backTo pos (starEach es X.env)).any (·.1) = false := by rfl) :
    DE X B lk (.Call (.Name "tuple" p) (e :: es) [] pos) (cFn (g1 gTpl) t) := de_fnT call_tuple_of gTpl_ok.ok hg hm boot_tuple ha (he := he) (hpl := hpl)

/-! sorted -/
theorem eachIs_pairs {K : PySem.W.Frag} {F : Addr → Prop} {H : Hp} : ∀ {vs : List V} {ds : List PyData} {us : List Value}, RpA K F H vs ds → Vals vs us → PySem.W.EachIs (fun u (b : V × PyData) => RelV b.1 u ∧ Rp K F H b.1 b.2) us (vs.zip ds)
  | _, _, _, .nil, .nil => .nil
  | _, _, _, .cons r q, .cons s t => .cons ⟨s, r⟩ (eachIs_pairs q t)
theorem eachIs_un {R : Value → V × PyData → Prop} {K : PySem.W.Frag} {F : Addr → Prop} {H : Hp} (h : ∀ u b, R u b → RelV b.1 u ∧ Rp K F H b.1 b.2) : ∀ {us : List Value} {bs : List (V × PyData)}, PySem.W.EachIs R us bs → Vals (bs.map (·.1)) us ∧ RpA K F H (bs.map (·.1)) (bs.map (·.2))
  | _, _, .nil => ⟨.nil, .nil⟩
  | _, _, .cons q t => ⟨.cons (h _ _ q).1 (eachIs_un h t).1, .cons (h _ _ q).2 (eachIs_un h t).2⟩
def rSortD (K : PySem.W.Frag) : List V → Hp → VK → Prop := fun vs H Q => ∃ (a : Addr) (xs : List V) (F : Addr → Prop) (ds : List PyData), vs = [V.ref a] ∧ SqL K H a xs ∧ RpA K F H xs ds ∧ PySem.W.AllAlike ds ∧ PySem.W.Sortable ds ∧ ds.all (dep 60) = true ∧
  ∀ ys p, RpA K F H ys (ds.mergeSort (PySem.W.dataLe false _root_.id)) → H p = none → Q (.ref p) (upd H p (.lst ys))
theorem map_zip_snd {α β : Type} : ∀ {xs : List α} {ys : List β}, xs.length = ys.length → (xs.zip ys).map (·.2) = ys
  | [], [], _ => rfl
  | _ :: _, _ :: _, h => by rw [List.zip_cons_cons, List.map_cons, map_zip_snd (Nat.succ.inj h)]
  | [], _ :: _, h => by cases h
  | _ :: _, [], h => by cases h
theorem cr_sortD (hu : Un0 X) : CallR X (.builtin "sorted") (rSortD X.K) := by
  intro pins s σ H vs us Q I r h
  obtain ⟨a, xs, F, ds, rfl, hs, ra, hal, hso, hd, q⟩ := h
  obtain ⟨its, rv, hl, hz⟩ := I.list hs
  rw [Vals.ref1 r]
  have hlen := ra.length
  have e := eachIs_pairs ra rv
  have em : (xs.zip ds).map (fun b : V × PyData => b.2) = ds := map_zip_snd hlen
  have er : PySem.W.EachIs (fun u (b : V × PyData) => ∃ as, Reads s.heap u b.2 as) its (xs.zip ds) := (PySem.W.each_mem e).mono fun u b ⟨⟨z1, z2⟩, hb⟩ => Dq.reads I b.2 b.1 u (dep_nd 60 _ (List.all_eq_true.mp hd _ (List.of_mem_zip hb).2)) z2.dp z1
  refine PySem.W.sorted_data (enc := fun b : V × PyData => b.2) hl.isList e er (by rw [em]; exact hal) (by rw [em]; exact hso) (by rw [List.length_zip, ← hlen, Nat.min_self]; exact hz) (fun b hb => ?_) fun out ho eo => ?_
  · have hm : b.2 ∈ ds := by rw [← em]; exact List.mem_map.mpr ⟨b, hb, rfl⟩
    have := (dep_ok 60 b.2 (List.all_eq_true.mp hd _ hm)).2
    have hu' : X.A.units + 100 < cLine := hu
    omega
  · obtain ⟨ov, or⟩ := eachIs_un (fun _ _ z => z) eo
    have es : ((xs.zip ds).mergeSort (PySem.W.dataLe false fun b : V × PyData => b.2)).map (fun b : V × PyData => b.2) = ds.mergeSort (PySem.W.dataLe false _root_.id) := by
      have := List.map_mergeSort (r := PySem.W.dataLe false fun b : V × PyData => b.2) (s := PySem.W.dataLe false _root_.id) (f := fun b : V × PyData => b.2) (l := xs.zip ds) (fun _ _ _ _ => rfl)
      rw [this, em]
    rw [es] at or
    obtain ⟨ep, he'⟩ := PyProof.Rows.sortedAll_at s.heap its out.toArray
    have lo : (((xs.zip ds).mergeSort (PySem.W.dataLe false fun b : V × PyData => b.2)).map (fun b : V × PyData => b.1)).length ≤ sizeLine := by
      rw [List.length_map, List.length_mergeSort, List.length_zip, ← hlen, Nat.min_self]; exact hz
    exact ⟨.ref _, _, I.laid (t' := s.toks) (o := .lst _) (fun _ _ => PyProof.Rows.sortedAll_old) (Nat.le_succ _) ⟨lo, out, ep, ov, by simpa using he'⟩, rfl, q _ _ or (I.hok.fresh (Nat.le_succ _))⟩
def gSrt : List Vl → Vl → (Vl → Prop) → Prop := fun st d Q => match pyO st d with
  | some (.list ds) => PySem.W.AllAlike ds ∧ PySem.W.Sortable ds ∧ ds.all (dep 60) = true ∧ Q (.ow (ds.mergeSort (PySem.W.dataLe false _root_.id)))
  | _ => False
theorem gSrt_ok {K : PySem.W.Frag} : F1Ok K B gSrt (rSortD K) := fun lv st tm σ tv H d v Q0 Q F O R q k => by
  unfold gSrt at q
  split at q
  · rename_i ds e
    obtain ⟨a, vs, rfl, h, r⟩ := R.lst e
    exact ⟨a, vs, F, ds, rfl, h, r, q.1, q.2.1, q.2.2.1, fun ys p r' hp => k _ _ _ q.2.2.2 ⟨F, _, R.pop.newLst hp r'⟩⟩
  · exact q.elim
theorem de_sorted (hu : Un0 X) (hg : Gl X "sorted") (hm : X.mg "sorted" = none) (ha : DA X B lk (e :: es) t) (he : starEach (e :: es) X.env = (false, eval e X.env) :: starEach es X.env := by rfl) (hpl : (backTo pos (starEach es X.env)).any (·.1) = false := by rfl) :
    DE X B lk (.Call (.Name "sorted" p) (e :: es) [] pos) (cFn (g1 gSrt) t) := de_fnB (cr_sortD hu) gSrt_ok.ok hg hm boot_sorted ha (he := he) (hpl := hpl)

/-! repr -/
mutual
theorem plain_noDict : ∀ d : PyData, d.plain = true → d.hasDict = false
  | .none, _ => by simp [PyData.hasDict]
  | .bool _, _ => by simp [PyData.hasDict]
  | .int _, _ => by simp [PyData.hasDict]
  | .str _, _ => by simp [PyData.hasDict]
  | .list xs, h => by
    rw [PyData.hasDict]
    exact plain_noDictAll xs (by simpa [PyData.plain] using h)
  | .tuple xs, h => by
    rw [PyData.hasDict]
    exact plain_noDictAll xs (by simpa [PyData.plain] using h)
  | .dict _, h => by simp [PyData.plain] at h
theorem plain_noDictAll : ∀ ds : List PyData, PyData.plainAll ds = true → PyData.hasDictAll ds = false
  | [], _ => by simp [PyData.hasDictAll]
  | d :: ds, h => by
    rw [PyData.plainAll, Bool.and_eq_true] at h
    rw [PyData.hasDictAll, plain_noDict d h.1, plain_noDictAll ds h.2]
    rfl
end
end

/-! ### slices -/
abbrev DTO := List Vl → (Option Int → List Vl → Prop) → Prop
def LO (K : PySem.W.Frag) (B : Ba) (lk : List Nat) (t : DTO) : TO := fun σ H Q => ∃ lv st tm tv Q0, Lk B lv lk ∧ Rel K B lv st tm σ tv H ∧ t st Q0 ∧ ∀ b st' H', Q0 b st' → Rel K B lv st' tm σ tv H' → Q b H'
abbrev DO (X : Cx) (B : Ba) (lk : List Nat) (e : Option Expr) (t : DTO) : Prop := PO X e (LO X.K B lk t)
theorem PO.weak {X : Cx} {e : Option Expr} {t t' : TO} (h : PO X e t) (i : ∀ σ H Q, t' σ H Q → t σ H Q) : PO X e t' := ⟨fun pins s σ H Q I q => h.run pins s σ H Q I (i σ H Q q)⟩
def cNoP : DTO := fun st Q => Q none st
def cPt (t : DT) : DTO := fun st Q => t st fun d st' => match d with
  | .fr (.int i) => Q (some i) st'
  | _ => False
/-- xs[lo:hi] -/
def cut (xs : List PyData) (lo hi : Option Int) : List PyData := (xs.drop (HT.sIx xs.length 0 lo)).take (HT.sIx xs.length xs.length hi - HT.sIx xs.length 0 lo)
def cSl (t : DT) (tl th : DTO) : DT := fun st Q => t st fun d st1 => tl st1 fun lo st2 => th st2 fun hi st3 => match pyO st3 d with
  | some (.list xs) => Q (.ow (cut xs lo hi)) st3
  | some (.tuple xs) => Q (.fr (.tuple (cut xs lo hi))) st3
  | some (.str x) => x.length ≤ sizeLine ∧ Q (.fr (.str (cutS x lo hi))) st3
  | _ => False
section
variable {X : Cx} {B : Ba} {lk : List Nat} {e : Expr} {te : DT} {lo hi : Option Expr} {tl th : DTO} {pos p2 : Pos}
theorem do_no : DO X B lk none cNoP := PO.weak po_none fun σ H Q ⟨lv, st, tm, tv, Q0, L, R, h, k⟩ => k _ _ _ h R
theorem do_at (h : DE X B lk e te) : DO X B lk (some e) (cPt te) := PO.weak (po_some h) fun σ H Q ⟨lv, st, tm, tv, Q0, L, R, h, k⟩ => by
  refine ⟨lv, st, tm, tv, _, L, R, h, fun d st' v H' q R' => ?_⟩
  split at q
  · rename_i i
    obtain rfl := R'.isInt
    exact ⟨i, rfl, k _ _ _ q R'.pop⟩
  · exact q.elim
def rSl3 (K : PySem.W.Frag) : V → Option Int → Option Int → Hp → VK → Prop := fun x lo hi H Q => rSlL K x lo hi H Q ∨ (rSlA K x lo hi H Q ∨ rSlS x lo hi H Q)
theorem sl3 : SlR X (rSl3 X.K) := sl_list.or (sl_tupA.or sl_str)
theorem cut_rp {K : PySem.W.Frag} {F : Addr → Prop} {H : Hp} {vs : List V} {ds : List PyData} (r : RpA K F H vs ds) (lo hi : Option Int) : RpA K F H (cutV vs lo hi) (cut ds lo hi) := by
  unfold cutV cut
  rw [r.length]
  exact (r.drop _).take _
theorem cut_whole {xs : List PyData} {lo hi : Option Int} (h : HT.sIx xs.length 0 lo = 0 ∧ HT.sIx xs.length xs.length hi = xs.length) : cut xs lo hi = xs := by
  unfold cut
  rw [h.1, h.2, List.drop_zero, Nat.sub_zero, List.take_length]
theorem de_slice (ht : DE X B lk e te) (hl : DO X B lk lo tl) (hh : DO X B lk hi th) : DE X B lk (.Subscript e (.Slice lo hi none p2) pos) (cSl te tl th) :=
  PE.weak (pe_slice sl3 ht hl hh) fun σ H Q ⟨lv, st, tm, tv, Q0, L, R, h, k⟩ => by
    refine ⟨lv, st, tm, tv, _, L, R, h, fun d st1 v H1 q1 R1 => ⟨lv, st1, d :: tm, v :: tv, _, L, R1, q1, fun l st2 H2 q2 R2 => ⟨lv, st2, d :: tm, v :: tv, _, L, R2, q2, fun u st3 H3 q R3 => ?_⟩⟩⟩
    obtain ⟨F, O, R4⟩ := R3
    split at q
    · rename_i xs e1
      obtain ⟨a, vs, rfl, h1, r⟩ := R4.lst e1
      exact .inl ⟨a, vs, rfl, h1, fun p hp => k _ _ _ _ q ⟨F, _, R4.pop.newLst hp (cut_rp r _ _)⟩⟩
    · rename_i xs e1
      obtain ⟨a, vs, rfl, h1, r⟩ := R4.tup e1
      refine .inr (.inl ⟨a, vs, rfl, h1, fun hw => ?_, fun _ p hp => k _ _ _ _ q ⟨F, _, R4.pop.newTup hp (cut_rp r _ _)⟩⟩)
      rw [r.length] at hw
      rw [cut_whole hw] at q
      exact k _ _ _ _ q ⟨F, O, R4.pop.push (d := .fr _) (.tup h1 r)⟩
    · rename_i x e1
      obtain rfl := (R4.scal e1).2.2.2 x rfl
      exact .inr (.inr ⟨x, rfl, q.1, k _ _ _ _ q.2 ⟨F, O, R4.pop.push (d := .fr (.str _)) (.str _)⟩⟩)
    · exact q.elim
/-! xs[::-1] -/
def cRev (t : DT) : DT := fun st Q => t st fun d st1 => match pyO st1 d with
  | some (.list xs) => Q (.ow xs.reverse) st1
  | some (.tuple xs) => Q (.fr (.tuple xs.reverse)) st1
  | _ => False
def tRevLT (K : PySem.W.Frag) (te : TE) : TE := fun σ H Q => te σ H fun x H1 => ∃ a xs, x = .ref a ∧ ((SqL K H1 a xs ∧ ∀ p, H1 p = none → Q (.ref p) (upd H1 p (.lst xs.reverse))) ∨ (SqT K H1 a xs ∧ ∀ p, H1 p = none → Q (.ref p) (upd H1 p (.tup xs.reverse))))
section
variable {prog : Program} {w : World} {A : Around} {E : Value → Shared → Prop} {s : Shared}
theorem pick_rev : ∀ (xs : List Value), (List.range xs.length).filterMap (fun (m : Nat) => xs.toArray[(((xs.length : Int) - 1) + (m : Int) * (-1)).toNat]?) = xs.reverse := by
  intro xs
  have e : (List.range xs.length).filterMap (fun (m : Nat) => xs.toArray[(((xs.length : Int) - 1) + (m : Int) * (-1)).toNat]?) = (List.range xs.length).filterMap (fun m => xs.reverse[m]?) := by
    have key : ∀ (l : List Nat), (∀ m ∈ l, m < xs.length) → l.filterMap (fun (m : Nat) => xs.toArray[(((xs.length : Int) - 1) + (m : Int) * (-1)).toNat]?) = l.filterMap (fun m => xs.reverse[m]?) := by
      intro l
      induction l with
      | nil => intro _; rfl
      | cons m l ih =>
        intro h
        have hm := h m List.mem_cons_self
        rw [List.filterMap_cons, List.filterMap_cons, ih fun k hk => h k (List.mem_cons_of_mem _ hk), List.getElem?_reverse hm, List.getElem?_toArray, show (((xs.length : Int) - 1) + (m : Int) * (-1)).toNat = xs.length - 1 - m by omega]
    exact key _ fun m hm => List.mem_range.mp hm
  rw [e]
  have : ∀ ys : List Value, (List.range ys.length).filterMap (fun m => ys[m]?) = ys := by
    intro ys
    induction ys with
    | nil => rfl
    | cons y ys ih =>
      rw [List.length_cons, List.range_succ_eq_map, List.filterMap_cons, List.filterMap_map]
      simp only [List.getElem?_cons_zero]
      congr 1
  have h := this xs.reverse
  rw [List.length_reverse] at h
  exact h
theorem getItem_tuple_rev {t sl : Addr} {items : List Value} {vl vu vs : Value} {Q : Value → Shared → Prop} (ht : s.heap.IsTuple t items.toArray) (hs : s.heap.IsSliceOf sl vl vu vs) (pl : IsPart vl none) (pu : IsPart vu none) (ps : IsPart vs (some (-1)))
    (h : Q (.ref s.heap.objs.size) { s with heap := s.heap.push { cls := .type "tuple", data := .seq items.reverse.toArray } })
    (hsz : items.length ≤ sizeLine) : wpAny (model prog w) A (getItem (.ref t) (.ref sl)) Q E s := by
  have htake : sizeOk (.seq items.reverse.toArray) := by
    show items.reverse.toArray.size ≤ sizeLine
    rw [List.size_toArray, List.length_reverse]
    exact hsz
  obtain ⟨os, hos, hcs, hds⟩ := id hs
  have hTs : s.TypeIs (.ref sl) "slice" := ⟨os, hos, hcs⟩
  cases pl
  cases pu
  cases ps
  have ht' : IsTup s.heap t items.toArray := ht
  unfold getItem
  try with_reducible refine wpAny_holding ?_
  first | refine wpAny_bind (wpAny_pure ?_) | skip
  refine wpAny_bind (wpAny_sequenceKey ht.typeIs (by decide) ?_)
  refine wpAny_bind (wpAny_callSpecial?_slot (name := Str.ofString "__getitem__") ht.typeIs PyProof.Rows.slot_tuple_getitem
    (wpAny_call_entry PyProof.Rows.slot_tuple_getitem ht.typeIs entry_tuple_getitem ?_ (args_tuple_getitem _ _)))
  show wpAny _ _ (Builtin.Tuple.tupleItemsOf (.ref t) >>= _) _ _ s
  refine wpAny_bind (PyProof.Rows.tupleItemsOf_ ht' ?_)
  refine wpAny_bind (wpAny_typeOf hTs ?_)
  rw [if_pos (by decide)]
  have hap : ∀ {Q : Int × Int × Nat → Shared → Prop} {E : Value → Shared → Prop} {A : Around}, Q ((items.length : Int) - 1, -1, items.length) s → wpAny (model prog w) A (Builtin.Slice.sliceApplied (.ref sl) (pure (items.toArray.size : Int))) Q E s := fun hq => by
    unfold Builtin.Slice.sliceApplied Builtin.Slice.sliceFields
    refine wpAny_bind (wpAny_bind (wpAny_field hos hds (x := .none) rfl (wpAny_bind (wpAny_field hos hds (x := .none) rfl (wpAny_bind (wpAny_field hos hds (x := .int (-1) _) rfl (wpAny_pure ?_)))))))
    refine wpAny_bind (slicePart_int ?_)
    show wpAny _ _ (if ((-1 : Int) == 0) = true then _ else _) _ _ s
    rw [if_neg (by decide)]
    refine wpAny_bind (slicePart_none (wpAny_bind (slicePart_none (wpAny_bind (wpAny_pure ?_)))))
    have e1 : Builtin.Slice.sliceAdjust none none (-1) (items.toArray.size : Int) = ((items.length : Int) - 1, -1) := by
      unfold Builtin.Slice.sliceAdjust
      simp
    have e2 : Builtin.Slice.slicePlaces ((items.length : Int) - 1) (-1) (-1) = items.length := by
      unfold Builtin.Slice.slicePlaces
      simp
      omega
    show wpAny _ _ (match Builtin.Slice.sliceAdjust none none (-1) (items.toArray.size : Int) with | (lo, hi) => pure (lo, (-1 : Int), Builtin.Slice.slicePlaces lo hi (-1))) _ _ s
    rw [e1]
    show wpAny _ _ (pure ((items.length : Int) - 1, (-1 : Int), Builtin.Slice.slicePlaces ((items.length : Int) - 1) (-1) (-1))) _ _ s
    rw [e2]
    exact wpAny_pure hq
  refine wpAny_bind (hap ?_)
  have hno : ¬ ((((items.length : Int) - 1 == 0) && ((-1 : Int) == 1) && (items.length == items.toArray.size)) = true) := by
    intro q
    rw [Bool.and_eq_true, Bool.and_eq_true] at q
    exact absurd q.1.2 (by decide)
  show wpAny _ _ (if (((items.length : Int) - 1 == 0) && ((-1 : Int) == 1) && (items.length == items.toArray.size)) = true then _ else _) _ _ s
  rw [if_neg hno]
  rw [pick_rev]
  first
    | exact wpAny_bind (m := Builtin.Tuple.tupleExact _) (wpAny_newObj_type (wpAny_pure ⟨_, rfl, wpAny_pure h⟩) htake)
    | exact wpAny_bind (m := Builtin.Tuple.tupleExact _) (wpAny_newObj_type (wpAny_bind (wpAny_pure (wpAny_pure ⟨_, rfl, wpAny_pure h⟩))) htake)
    | exact wpAny_bind (wpAny_bind (m := Builtin.Tuple.tupleExact _) (wpAny_newObj_type (wpAny_pure (wpAny_pure ⟨_, rfl, wpAny_pure h⟩)) htake))
    | exact wpAny_bind (wpAny_bind (m := Builtin.Tuple.tupleExact _) (wpAny_newObj_type (wpAny_pure ⟨_, rfl, wpAny_pure h⟩) htake))
end
end
end DL

/-! The data layer, part 9: xs[::-1], list methods, x[i] = e. -/
namespace DL
open PySem PySem.Spec PyProof.Rows L2
section
variable {X : Cx} {B : Ba} {lk : List Nat} {e : Expr} {te : DT} {pos p2 : Pos}
theorem pe_revLT {e : Expr} {te : TE} {k : Nat} {p1 p2 p3 pos : Pos} (he : PE X e te) : PE X (.Subscript e (.Slice none none (some (.UnaryOp .USub (.Constant (.int 1) k p1) p2)) p3) pos) (tRevLT X.K te) := by
  refine ⟨fun pins s σ H Q I h => ?_⟩
  refine Subscript_ (thn (he.run pins s σ H _ I h) fun v s1 ⟨x, H1, I1, r1, q1⟩ => ?_)
  obtain ⟨a, xs, ex, q⟩ := q1
  subst ex
  cases r1
  have hst : PO X (some (.UnaryOp .USub (.Constant (.int 1) k p1) p2)) (tPart (tUn (rU fun i => .int (-i)) (tC (.int 1)))) := po_some (pe_un un_neg pe_int)
  refine wpAny_Slice (thn (po_none.run pins s1 σ H1 (fun o H2 => o = none ∧ H2 = H1) I1 ⟨rfl, rfl⟩) fun vl s2 ⟨l, H2, I2, pl, el, e2⟩ => ?_)
  subst el e2
  refine thn (po_none.run pins s2 σ H2 (fun o H3 => o = none ∧ H3 = H2) I2 ⟨rfl, rfl⟩) fun vu s3 ⟨u, H3, I3, pu, eu, e3⟩ => ?_
  subst eu e3
  refine thn (hst.run pins s3 σ H3 (fun o H4 => o = some (-1) ∧ H4 = H3) I3 ⟨1, rfl, -1, rfl, rfl, rfl⟩) fun vs s4 ⟨o, H4, I4, ps, eo, e4⟩ => ?_
  subst eo e4
  have I5 : Inv X pins σ H4 { s4 with heap := s4.heap.push { cls := .type "slice", data := .fields #[vl, vu, vs] } } := I4.kept (t' := s4.toks) fun b ob q => Heap.get?_push_of_some _ q
  show wpAny (model X.prog X.w) X.A (subscriptTail e (.Slice none none (some (.UnaryOp .USub (.Constant (.int 1) k p1) p2)) p3) (.ref a) (.ref s4.heap.objs.size)) (EP X pins σ Q) X.xe { s4 with heap := s4.heap.push { cls := .type "slice", data := .fields #[vl, vu, vs] } }
  rcases q with ⟨hx, q⟩ | ⟨hx, q⟩
  · obtain ⟨its, r, ht, hz⟩ := I5.list hx
    have hlen := r.length
    refine tail_any (ops := [.ref a, .ref s4.heap.objs.size]) ht.isList.typeIs (PySem.slot_list_getitem.lookup) ?_ (by with_unfolding_all rfl)
    refine wpAny_getItem_list_slice ht.isList (Heap.IsSliceOf.new _ vl vu vs) pl pu ps (by decide) ?_ (by rw [List.size_toArray]; omega)
    rw [PySem.W.krv_pick]
    refine ⟨.ref _, _, I5.laid (t' := s4.toks) (o := .lst xs.reverse) (fun b ob q => Heap.get?_push_of_some _ q) (Nat.le_refl _) ?_, rfl, q _ (I5.hok.fresh (Nat.le_refl _))⟩
    exact ⟨by rw [List.length_reverse]; exact hz, _, 0, r.reverse, Heap.get?_push_size _ rfl⟩
  · obtain ⟨its, r, ht, hz⟩ := I5.tuple hx
    have hlen := r.length
    refine tail_any (ops := [.ref a, .ref s4.heap.objs.size]) ht.typeIs (PyProof.Rows.slot_tuple_getitem.lookup) ?_ (by with_unfolding_all rfl)
    refine getItem_tuple_rev (items := its) ht (Heap.IsSliceOf.new _ vl vu vs) pl pu ps ?_ (by omega)
    refine ⟨.ref _, _, I5.laid (t' := s4.toks) (o := .tup xs.reverse) (fun b ob q => Heap.get?_push_of_some _ q) (Nat.le_refl _) ?_, rfl, q _ (I5.hok.fresh (Nat.le_refl _))⟩
    exact ⟨by rw [List.length_reverse]; exact hz, _, r.reverse, IsTup.new _ _⟩
theorem de_rev {k : Nat} {p1 p2 p3 : Pos} (he : DE X B lk e te) : DE X B lk (.Subscript e (.Slice none none (some (.UnaryOp .USub (.Constant (.int 1) k p1) p2)) p3) pos) (cRev te) :=
  PE.weak (pe_revLT he) fun σ H Q ⟨lv, st, tm, tv, Q0, L, R, h, k⟩ => by
    refine ⟨lv, st, tm, tv, _, L, R, h, fun d st1 v H1 q R1 => ?_⟩
    obtain ⟨F, O, R4⟩ := R1
    split at q
    · rename_i xs e1
      obtain ⟨a, vs, rfl, h1, r⟩ := R4.lst e1
      exact ⟨a, vs, rfl, .inl ⟨h1, fun p hp => k _ _ _ _ q ⟨F, _, R4.pop.newLst hp r.reverse⟩⟩⟩
    · rename_i xs e1
      obtain ⟨a, vs, rfl, h1, r⟩ := R4.tup e1
      exact ⟨a, vs, rfl, .inr ⟨h1, fun p hp => k _ _ _ _ q ⟨F, _, R4.pop.newTup hp r.reverse⟩⟩⟩
    · exact q.elim
end

/-! ### methods of an owned list, through its alias -/
abbrev GM := List PyData → List PyData → (List PyData → PyData → Prop) → Prop
def MOk (g : GM) (r : V → List V → Hp → VK → Prop) : Prop := ∀ (K : PySem.W.Frag) (F : Addr → Prop) H a vs xs us ys Q0 (Q : VK), H a = some (.lst vs) → RpA K F H vs xs → RpA K F H us ys → g xs ys Q0 →
  (∀ zs y vz w, Q0 zs y → RpA K F H vz zs → Rp K F H w y → Q w (upd H a (.lst vz))) → r (.ref a) us H Q
def cMth (g : GM) (to : DT) (ta : DTA) : DT := fun st Q => to st fun d st1 => match d with
  | .bor i => ta st1 fun ds st2 => (match st2[i]?, frs ds with
    | some (.ow xs), some ys => g xs ys fun zs y => Q (.fr y) (st2.set i (.ow zs))
    | _, _ => False)
  | _ => False
section
variable {X : Cx} {B : Ba} {lk : List Nat} {o e : Expr} {es : List Expr} {to : DT} {t : DTA} {name : Str} {apos cpos : Pos} {id : String} {g : GM} {r : V → List V → Hp → VK → Prop}
/-- an alias, as an owned list, has its type at once -/
theorem mth_weak {K : PySem.W.Frag} (ok : MOk g r) {σ : L2.St} {H : Hp} {Q : VK} {lv : List (Nat × V)} {st st1 tm : List Vl} {i : Nat} {v : V} {tv : List V} {H1 : Hp} {Q0 : Vl → List Vl → Prop} {ds : List Vl} {vs : List V} (hl : vs.length = ds.length)
    (R : Rel K B lv st (ds.reverse ++ (.bor i :: tm)) σ (vs.reverse ++ (v :: tv)) H)
    (q : match st[i]?, frs ds with
      | some (.ow xs), some ys => g xs ys fun zs y => Q0 (.fr y) (st.set i (.ow zs))
      | _, _ => False) (k : ∀ d st' v H', Q0 d st' → Rel K B lv st' (d :: tm) σ (v :: tv) H' → Q v H') : r v vs H Q := by
  split at q
  · rename_i xs ys e1 e2
    obtain rfl := frs_eq e2
    obtain ⟨F, O, R⟩ := R
    rw [List.length_map] at hl
    obtain ⟨ra, R1⟩ := RelX.frs hl R
    obtain ⟨a, ws, rfl, ho, h1, r1, hs⟩ := R1.ofAlias e1
    refine ok K F H a ws xs vs ys _ Q h1 r1 ra q fun zs y vz w q2 rz rw' => ?_
    have R2 := (R1.pop).putL ho h1 hs rz
    have kp : Kp F H (upd H a (.lst vz)) := fun b ob eb hb => by
      by_cases z : b = a
      · subst z
        rcases hb with f | s
        · have := R1.fo b f
          rw [ho] at this; cases this
        · rw [h1] at eb; cases eb; exact s.elim
      · rw [upd_ne z]; exact eb
    exact k _ _ _ _ q2 ⟨F, O, R2.push (d := .fr y) (Rp.keep (fun _ f => f) kp _ _ rw')⟩
  · exact q.elim
theorem tyL {K : PySem.W.Frag} {lv : List (Nat × V)} {st tm : List Vl} {σ : L2.St} {tv : List V} {H : Hp} {i : Nat} {v : V} {xs : List PyData} (R : Rel K B lv st (.bor i :: tm) σ (v :: tv) H) (e : st[i]? = some (.ow xs)) : tyV K "list" v H := by
  obtain ⟨F, O, R⟩ := R
  obtain ⟨a, ws, rfl, ho, h1, _⟩ := R.ofAlias e
  exact .inl ⟨rfl, ws, SqL.of h1⟩
/-- o.m(e, ..): o a name; the arguments leave o's list a list -/
def cMth' (g : GM) (to : DT) (ta : DTA) : DT := fun st Q => to st fun d st1 => match d with
  | .bor i => (∃ xs, st1[i]? = some (.ow xs)) ∧ ta st1 fun ds st2 => (match st2[i]?, frs ds with
    | some (.ow xs), some ys => g xs ys fun zs y => Q (.fr y) (st2.set i (.ow zs))
    | _, _ => False)
  | _ => False
theorem de_mth (slot : Slot "list" name id) (hty : typeOf (.builtin id) = pure (.type "method_descriptor")) (hm : MtR X id r) (ok : MOk g r) (ho : DE X B lk o to) (ha : DA X B lk (e :: es) t)
    (hbase : attributeBase o name X.env (eval o X.env) = eval o X.env := by rfl)
    (hfew : ((backTo cpos (starEach (e :: es) X.env)).all (fun x => !x.1) && (backToKw cpos (keywordEach [] X.env)).all (fun x => x.1.isSome)
      && decide ((e :: es).length + ([] : List Keyword).length + (if ([] : List Keyword).isEmpty then 0 else 1) < 30)) = true := by rfl)
    (hline : (apos.endLine == cpos.line) = true := by rfl) (hs : starEach (e :: es) X.env = (false, eval e X.env) :: starEach es X.env := by rfl) (hplain : (backTo cpos (starEach es X.env)).any (·.1) = false := by rfl) :
    DE X B lk (.Call (.Attribute o name apos) (e :: es) [] cpos) (cMth' g to t) :=
  PE.weak (pe_bm PySem.F.plainAttrs_list slot hty hm ho ha hbase hfew hline hs hplain) fun σ H Q ⟨lv, st, tm, tv, Q0, L, R, h, k⟩ => by
    refine ⟨lv, st, tm, tv, _, L, R, h, fun d st1 v H1 q1 R1 => ?_⟩
    split at q1
    · rename_i i
      obtain ⟨⟨xs, e1⟩, q1⟩ := q1
      exact ⟨tyL R1 e1, lv, st1, .bor i :: tm, v :: tv, _, L, R1, q1, fun ds st2 vs H2 q2 hl R2 => mth_weak (st1 := st1) (H1 := H1) ok hl R2 q2 k⟩
    · exact q1.elim
def gApp : GM := fun xs ys Q => match ys with
  | [y] => xs.length < sizeLine ∧ Q (xs ++ [y]) .none
  | _ => False
theorem rp1 {K : PySem.W.Frag} {F : Addr → Prop} {H : Hp} {us : List V} {y : PyData} (r : RpA K F H us [y]) : ∃ u, us = [u] ∧ Rp K F H u y := by
  cases r with
  | cons r q => cases q; exact ⟨_, rfl, r⟩
theorem gApp_ok : MOk gApp rAppend := fun K F H a vs xs us ys Q0 Q h r ra q k => by
  unfold gApp at q
  split at q
  · obtain ⟨u, rfl, ru⟩ := rp1 ra
    exact ⟨a, vs, u, rfl, rfl, h, by rw [r.length]; exact q.1, k _ _ _ _ q.2 (r.append (.one ru)) .non⟩
  · exact q.elim
theorem de_append (ho : DE X B lk o to) (ha : DA X B lk [e] t) (hbase : attributeBase o "append" X.env (eval o X.env) = eval o X.env := by rfl)
    (hfew : ((backTo cpos (starEach [e] X.env)).all (fun x => !x.1) && (backToKw cpos (keywordEach [] X.env)).all (fun x => x.1.isSome)
      && decide ([e].length + ([] : List Keyword).length + (if ([] : List Keyword).isEmpty then 0 else 1) < 30)) = true := by rfl)
    (hline : (apos.endLine == cpos.line) = true := by rfl) (hs : starEach [e] X.env = (false, eval e X.env) :: starEach [] X.env := by rfl) (hplain : (backTo cpos (starEach [] X.env)).any (·.1) = false := by rfl) :
    DE X B lk (.Call (.Attribute o "append" apos) [e] [] cpos) (cMth' gApp to t) := de_mth PySem.F.slot_list_append PySem.F.type_list_append mt_append gApp_ok ho ha hbase hfew hline hs hplain
def gIns : GM := fun xs ys Q => match ys with
  | [.int i, y] => xs.length < sizeLine ∧ 0 ≤ i ∧ i < 2 ^ 63 ∧ Q (xs.take i.toNat ++ [y] ++ xs.drop i.toNat) .none
  | _ => False
theorem gIns_ok : MOk gIns (fun x vs H Q => ∃ (l : Addr) (xs : List V) (i : Int) (y : V), x = .ref l ∧ vs = [.int i, y] ∧ H l = some (.lst xs) ∧ xs.length < sizeLine ∧ 0 ≤ i ∧ i < 2 ^ 63 ∧
    Q .non (upd H l (.lst (xs.take i.toNat ++ [y] ++ xs.drop i.toNat)))) := fun K F H a vs xs us ys Q0 Q h r ra q k => by
  unfold gIns at q
  split at q
  · rename_i i y
    cases ra with
    | cons r1 ra =>
      cases r1
      obtain ⟨u, rfl, ru⟩ := rp1 ra
      exact ⟨a, vs, i, u, rfl, rfl, h, by rw [r.length]; exact q.1, q.2.1, q.2.2.1, k _ _ _ _ q.2.2.2 (((r.take _).append (.one ru)).append (r.drop _)) .non⟩
  · exact q.elim
theorem de_insert {e2 : Expr} (ho : DE X B lk o to) (ha : DA X B lk [e, e2] t) (hbase : attributeBase o "insert" X.env (eval o X.env) = eval o X.env := by rfl)
    (hfew : ((backTo cpos (starEach [e, e2] X.env)).all (fun x => !x.1) && (backToKw cpos (keywordEach [] X.env)).all (fun x => x.1.isSome)
      && decide ([e, e2].length + ([] : List Keyword).length + (if ([] : List Keyword).isEmpty then 0 else 1) < 30)) = true := by rfl)
    (hline : (apos.endLine == cpos.line) = true := by rfl) (hs : starEach [e, e2] X.env = (false, eval e X.env) :: starEach [e2] X.env := by rfl) (hplain : (backTo cpos (starEach [e2] X.env)).any (·.1) = false := by rfl) :
    DE X B lk (.Call (.Attribute o "insert" apos) [e, e2] [] cpos) (cMth' gIns to t) := de_mth PySem.F.slot_list_insert PySem.F.type_list_insert mt_insert gIns_ok ho ha hbase hfew hline hs hplain
/-! ### x[i] = e -/
def gSub (to ti : DT) : DTG := fun d st Q => to st fun o st1 => ti st1 fun i st2 => match o, i, d with
  | .bor s, .fr (.int k), .fr y => (match st2[s]? with
    | some (.ow xs) => ∃ j, ixN xs.length k = some j ∧ Q (st2.set s (.ow (xs.set j y)))
    | _ => False)
  | _, _, _ => False
theorem dg_sub {i : Expr} {ti : DT} {pos : Pos} (ho : DE X B lk o to) (hi : DE X B lk i ti)
    (ha : ∀ v, assign (.Subscript o i pos) X.env v = (do
      let ov ← holding [v] (eval o X.env)
      let iv ← holding [v, ov] (eval i X.env)
      standAt pos
      holding [v, ov, iv] (setItem ov iv v)
      release [v, ov, iv] []) := by intro _; rfl) : DG X B lk [] (.Subscript o i pos) (gSub to ti) :=
  PG.weak (pg_sub ho hi set_list ha) fun v σ H Q ⟨lv, st, d, tm, tv, Q0, L, Bt, R, h, k⟩ => by
    refine ⟨lv, st, d :: tm, v :: tv, _, L, R, h, fun o' st1 ov H1 q1 R1 => ⟨lv, st1, o' :: d :: tm, ov :: v :: tv, _, L, R1, q1, fun i' st2 iv H2 q2 R2 => ?_⟩⟩
    split at q2
    · rename_i s k' y
      obtain rfl := R2.isInt
      split at q2
      · rename_i xs e1
        obtain ⟨j, hj, q⟩ := q2
        obtain ⟨F, O, R3⟩ := R2.pop
        obtain ⟨a, ws, rfl, ho', h1, r1, hs⟩ := R3.ofAlias e1
        have rv : Rp X.K F H2 v y := R3.pop.top (d := .fr y) (fun i z => by cases z)
        refine ⟨a, ws, k', j, rfl, rfl, h1, by rw [r1.length]; exact hj, ?_⟩
        exact k _ _ _ q ⟨rfl, fun _ _ => rfl⟩ ⟨F, O, (R3.pop.pop).putL ho' h1 hs (RpA.set rv j r1)⟩
      · exact q2.elim
    · exact q2.elim
end
end DL

/-! The data layer, part 10: a def from its body; the law's end. -/
namespace DL
open PySem PySem.Spec PyProof.Rows L2

theorem dss_nox {X : Cx} {B : Ba} {lk : List Nat} {b : List Stmt} {t : DTS} (h : DSs X.nox B lk b t) : DSs X B lk b t := PSs.nox h
section
variable {P : Program} {w : World} {K : PySem.W.Frag} {mg : Str → Option Value} {base : Heap} {CX : CXT} {k : Nat} {x qual : Str} {params : Arguments} {body : List Stmt} {scope : Scope} {dvs : List V} {kws : List (Str × V)} {f : Addr} {fd : FuncData}
/-- a def by its body, where no repr is under way (the rows follow the library's rule for any state) -/
theorem fn_ofG {N ps : List Str} {sp : Sp} (F : FunD K x qual params body scope dvs kws f fd) (S : FnScope N ps scope) (len : ∀ vs H Q E, sp vs H Q E → vs.length = ps.length)
    (hbody : ∀ (cdv : Value) (A : Around) (outer : List Env) (s : Shared) (H : Hp) (vs : List V) (Q : VK) (E : XK), Room k (A.deeper (envOfC qual scope s.heap.objs.size f cdv)) → A.guards = some [] → sp vs H Q E →
      ∃ t, PSs (cxOf CX P w K mg base N qual scope f cdv A outer s H E) body t ∧ t { nx := fun _ H' => Q .non H', rt := Q } (start N vs) H) : FnG P w K mg base CX (k + 1) f fd ps sp := by
  obtain ⟨oc, od, dV, kV, doc, pm, an, cdv, ct, osl, rfl, lk, hcd, _, _⟩ := F.ex
  refine ⟨len, fun A outer s H args us vs Q E hr hgd e0 hb r hsp => ?_⟩
  have hl := len _ _ _ _ hsp
  have KX : K.In s.heap := e0.mod.kin.keeps fun b o e => (e0.bs b o e).1
  have lim : s.heap.NoLimit := e0.mod.nolimit.keeps fun b o e => (e0.bs b o e).1
  have hkind : ∀ y ∈ ps.zip us, scope.names.lookup y.1 = some .local ∨ (scope.names.lookup y.1 = some .cell ∧ ((cellsFrom (s.heap.objs.size + 1) scope.names []).lookup y.1).isSome = true) := fun ⟨n, v⟩ hy =>
    (S.par n (List.of_mem_zip hy).1).imp id fun q => ⟨q, PySem.W.cellsFrom_some _ _ _ (.inl q)⟩
  refine codeAny_call_function hr.depth (KX _ _ lk) rfl S.co S.gen rfl (PySem.W.codeRec_of KX hcd) (hb _ _ _ _ ?_)
  refine wpAny_newFunctionEnv_cells S.kind hkind fun env he s1 x => ?_
  subst he
  refine ⟨lim.keeps x.toInCall.keep, codeAny_func ?_⟩
  obtain ⟨t, ht, hq⟩ := hbody cdv A outer s H vs Q E (hr.deeper _) hgd hsp
  have I : Inv (cxOf CX P w K mg base N qual scope f cdv A outer s H E) [] (start N vs) H s1 := inv_start S hr.hd e0 hl r x
  refine wpAny_mono (ht.run [] s1 (start N vs) H _ I hq) (fun fl s' hs => ?_) fun e s' hs => hs
  match fl, hs with
  | .ret u, ⟨v, σ', H', J, rv, q⟩ => exact ⟨v, H', J.os, J.bare, J.base, J.hok, rv, q⟩
  | .next, ⟨σ', H', J, q⟩ => exact ⟨.non, H', J.os, J.bare, J.base, J.hok, rfl, q⟩
  | .brk, ⟨_, _, _, q⟩ => exact False.elim q
  | .cont, ⟨_, _, _, q⟩ => exact False.elim q

/-! ### a def's promise from its body's reading -/
def lvs (lk : List Nat) (vs : List V) : List (Nat × V) := lk.filterMap fun i => (vs[i]?).map fun v => (i, v)
theorem lvs_in {lk : List Nat} {vs : List V} {p : Nat × V} (h : p ∈ lvs lk vs) : p.1 ∈ lk ∧ vs[p.1]? = some p.2 := by
  unfold lvs at h
  obtain ⟨i, hi, e⟩ := List.mem_filterMap.mp h
  obtain ⟨v, hv, rfl⟩ := Option.map_eq_some_iff.mp e
  exact ⟨hi, hv⟩
theorem lvs_of {lk : List Nat} {vs : List V} {i : Nat} {v : V} (h : i ∈ lk) (e : vs[i]? = some v) : (i, v) ∈ lvs lk vs := List.mem_filterMap.mpr ⟨i, h, by rw [e]; rfl⟩
abbrev dEnds (Q0 : Vl → List Vl → Prop) : DEnds := { nx := fun st => Q0 (.fr .none) st, rt := fun d st => (∀ i, d ≠ .bor i) ∧ Q0 d st }
theorem def_run {N ps : List Str} {lk : List Nat} {n : Nat} {S : VSp} (F : FunD K x qual params body scope dvs kws f fd) (Sc : FnScope N ps scope) (hn : ps.length = n) (hN : n ≤ N.length)
    (t : DTS) (hbody : ∀ (cdv : Value) (A : Around) (outer : List Env) (s : Shared) (H : Hp) (E : XK) (B : Ba), Room k (A.deeper (envOfC qual scope s.heap.objs.size f cdv)) → A.guards = some [] → DSs (cxOf CX P w K mg base N qual scope f cdv A outer s H E) B lk body t)
    (read : ∀ ds Q0 E0, S ds Q0 E0 → t (dEnds Q0) (ds ++ List.replicate (N.length - n) .gone)) : FnG P w K mg base CX (k + 1) f fd ps (spV K mg lk n S) := by
  refine fn_ofG F Sc (fun vs H Q E h => h.1.trans hn.symm) fun cdv A outer s H vs Q E hr hgd h => ?_
  obtain ⟨hl, F0, O0, ds, Q0, E0, pre, hS, kQ, kE⟩ := h
  let B : Ba := ⟨H, fun a => O0 a ≠ none, F0, lvs lk vs⟩
  refine ⟨_, hbody cdv A outer s H E B hr hgd, ?_⟩
  have hlen : ds.length = n := pre.len.trans hl
  have hs : ∀ i v, vs[i]? = some v → (start N vs)[i]? = some (some v) := fun i v e => by
    have hi := (List.getElem?_eq_some_iff.mp e).1
    unfold L2.start
    rw [List.getElem?_append_left (by rw [List.length_map]; exact hi), List.getElem?_map, e]; rfl
  have R : RelX K B (lvs lk vs) (ds ++ List.replicate (N.length - n) .gone) [] (start N vs) [] H F0 (fun a => (O0 a).map Sum.inl) := by
    refine ⟨?_, fun i d e => ?_, (trivial : True), fun a fa => ?_, fun a w e => ?_, pre.fh, fun a o e _ => e, fun a w e => ?_, fun a fa => fa, fun a fa => .inl fa, fun p hp => hs _ _ (lvs_in hp).2⟩
    · unfold L2.start
      rw [List.length_append, List.length_append, List.length_map, List.length_replicate, List.length_replicate, hlen, hl]
    · by_cases hi : i < ds.length
      · rw [List.getElem?_append_left hi] at e
        have hv : i < vs.length := by rw [hl, ← hlen]; exact hi
        rcases pre.av i d _ e (List.getElem?_eq_getElem hv) with z | z
        · exact .inl z
        · exact .inr ⟨_, hs i _ (List.getElem?_eq_getElem hv), z⟩
      · rw [List.getElem?_append_right (Nat.not_lt.mp hi), List.getElem?_replicate] at e
        split at e
        · cases e; exact .inl rfl
        · cases e
    · rw [pre.fo a fa]; rfl
    · obtain ⟨i, ei, _⟩ := Option.map_eq_some_iff.mp e
      exact pre.oh a i ei
    · obtain ⟨i, ei, _⟩ := Option.map_eq_some_iff.mp e
      exact .inl (show O0 a ≠ none by rw [ei]; exact fun z => nomatch z)
  -- behind the body
  have post : ∀ st' σ' (tm : List Vl) (tv : List V) H' F' O', RelX K B (lvs lk vs) st' tm σ' tv H' F' O' → Post K F0 O0 vs H lk st' H' F' O' := fun st' σ' tm tv H' F' O' R' =>
    ⟨fun i hi d v e1 e2 => by
      rcases R'.sl i d e1 with z | ⟨u, h1, h2⟩
      · exact .inl z
      · have := R'.lk _ (lvs_of hi e2)
        rw [h1] at this
        cases this
        exact .inr h2,
    R'.fo, R'.oh, R'.fh, fun a o e n => R'.fr a o e (fun z => z n), fun a w e => R'.mi a w e, R'.f0, fun a fa => by
      rcases R'.f1 a fa with z | z | z
      · exact .inl z
      · exact .inr (.inl z)
      · exact .inr (.inr z)⟩
  refine ⟨lvs lk vs, _, [], [], dEnds Q0, ⟨fun p hp => (lvs_in hp).1, fun p hp => hp⟩, (fun i hi => absurd hi List.not_mem_nil), ⟨F0, _, R⟩, read ds Q0 E0 hS, ⟨fun st' σ' H' q ⟨F', O', R'⟩ => ?_, fun d st' v σ' H' q ⟨F', O', R'⟩ => ?_, fun _ _ _ z => z.elim, fun _ _ _ z => z.elim⟩⟩
  · exact kQ (.fr .none) st' .non H' F' O' q (post _ _ _ _ _ _ _ R') .non
  · exact kQ d st' v H' F' O' q.2 (post _ _ _ _ _ _ _ R') (R'.top q.1)
end

/-! ### the law -/
/-- the law's promise: True at every script -/
def lawS (n : Nat) : VSp := fun ds Q _ => ∃ ns : List Int, ns.length ≤ n ∧ ds = [.scr ns] ∧ ∀ ds', Q (.fr (.bool true)) ds'
theorem scrOf {K : PySem.W.Frag} {H : Hp} {a : Addr} {ns : List Int} (O : Only H) (h : SqL K H a (ns.map V.int)) : ScrAt K H a ns := by
  rcases h with (h | h) | h
  · rcases O a with z | ⟨o, xs, z⟩ <;> (rw [h] at z; cases z)
  · exact .inl h
  · exact .inr h
theorem lawSp {K : PySem.W.Frag} {mg : Str → Option Value} {lk : List Nat} {n : Nat} {H : Hp} {a : Addr} {ns : List Int} (hl : ns.length ≤ n) (O : Only H) (h : SqL K H a (ns.map V.int)) : spV K mg lk 1 (lawS n) [.ref a] H (fun v _ => v = .bl true) (fun _ _ _ => False) := by
  refine ⟨rfl, fun _ => False, fun _ => none, [.scr ns], fun r _ => r = .fr (.bool true), fun _ _ => False, ⟨rfl, fun i d v e1 e2 => ?_, fun _ z => z.elim, fun _ z => z.elim, fun _ _ z => by cases z⟩, ⟨ns, hl, rfl, fun _ => rfl⟩, fun r ds' v H' F' O' q _ hv => ?_, fun _ _ _ _ _ _ _ z => z.elim⟩
  · cases i with
    | zero =>
      cases e1
      cases e2
      exact .inr ⟨a, rfl, scrOf O h⟩
    | succ i => cases e1
  · subst q
    have hv : Rp K F' H' v (.bool true) := hv
    cases hv
    rfl
theorem law_callG {P : Program} {w : World} {K : PySem.W.Frag} {mg mb : Str → Option Value} {CX : CXT} {k : Nat} {fa a : Addr} {fd : FuncData} {x : Str} {sp : Sp} {s₁ : Shared} {vs : List Value} {ns : List Int}
    (KX : K.In s₁.heap) (hns : s₁.heap.Ns mainGlobals mg) (hb : s₁.heap.Ns builtinsNs mb) (hbb : ∀ x : Str, x ≠ "__name__" → mb x = bootBuiltins x) (hlim : s₁.heap.NoLimit) (hg : s₁.gens = #[])
    (ha : s₁.heap.get? a = some { cls := .type "list", data := .seq vs.toArray }) (hi : IntsAre vs ns) (hl : ns.length ≤ sizeLine) (hr : Room k callerA)
    (F : ∀ base : Heap, K.In base → base.Ns mainGlobals mg → FnG P w K mg base CX k fa fd [x] sp) (hbind : ∀ (s : Shared) (u : Value), BindsTo s fd ⟨[u], []⟩ [(x, u)])
    (hsp : ∀ H : Hp, Only H → SqL K H a (ns.map V.int) → sp [.ref a] H (fun v _ => v = .bl true) fun _ _ _ => False)
    (hCX : ∀ H e s', CX [] H s₁ (fun _ _ _ => False) e s' → False) :
    codeAny (model P w) callerA (.call (.ref fa) ⟨[.ref a], []⟩) (fun r s' => r = .ok (.ret (.bool true)) ∧ OldK s₁.heap s'.heap ∧ s'.os = s₁.os ∧ AllBare s'.gens) s₁ := by
  have core : ∀ H : Hp, Only H → SqL K H a (ns.map V.int) → HOk P w H s₁.heap → (∀ b, H b ≠ none → b = a) → (H a ≠ none → K.lookup a = none) →
      codeAny (model P w) callerA (.call (.ref fa) ⟨[.ref a], []⟩) (fun r s' => r = .ok (.ret (.bool true)) ∧ OldK s₁.heap s'.heap ∧ s'.os = s₁.os ∧ AllBare s'.gens) s₁ := by
    intro H hO hS hok hA hK
    have free : ∀ {b : Addr} {o : Obj}, s₁.heap.get? b = some o → (b = a → False) → H b = none := fun {b o} e h => by
      cases q : H b with
      | none => rfl
      | some u => exact (h (hA b (by rw [q]; exact fun z => nomatch z))).elim
    have nsK : ∀ {b : Addr} {m : Str → Option Value}, s₁.heap.Ns b m → (hidT s₁.heap H).Ns b m := fun {b m} ⟨o, es, ep, e, d, r⟩ => ⟨o, es, ep, hidT_get e (free e fun z => by
      subst z
      rw [ha] at e; cases e
      have d' : Data.seq vs.toArray _ = Data.dict es ep := d
      cases d'), d, r⟩
    have hKb : K.In (hidT s₁.heap H) := fun b o e => hidT_get (KX b o e) (by
      cases q : H b with
      | none => rfl
      | some u =>
        have e' : b = a := hA b (by rw [q]; exact fun z => nomatch z)
        subst e'
        rw [hK (by rw [q]; exact fun z => nomatch z)] at e; cases e)
    have hM : Mod K mg (hidT s₁.heap H) := ⟨hKb, nsK hns, ⟨mb, nsK hb, hbb⟩, let ⟨mc, h1, h2⟩ := hlim; ⟨mc, nsK h1, h2⟩⟩
    have e0 : Env0 P w K mg (hidT s₁.heap H) callerA [] s₁ H := ⟨rfl, hM, fun b o e => of_hidT e, Nat.le_of_eq (hidT_size _ _), trivial, (fun b hb => absurd hb List.not_mem_nil), hok, .of_eq hg⟩
    refine codeAny_mono ((F _ hKb (nsK hns)).run callerA [] s₁ H ⟨[.ref a], []⟩ [.ref a] [.ref a] _ _ hr rfl e0 (hbind s₁ (.ref a)) (.cons rfl .nil) (hsp H hO hS)) fun r s' h => ?_
    match r, h with
    | .error e, h => exact (hCX H e s' h).elim
    | .ok .next, h => exact False.elim h
    | .ok .brk, h => exact False.elim h
    | .ok .cont, h => exact False.elim h
    | .ok (.ret u), ⟨v, H', os, bare, un, hok', r', q⟩ =>
      obtain rfl : v = .bl true := q
      obtain rfl : u = Value.bool true := r'
      refine ⟨rfl, OldK.of_keep fun b o e => ?_, os, bare⟩
      cases q : H b with
      | none => exact un.keep b o e q (fun z => by cases z) (fun z => by cases z)
      | some u =>
        rcases hO b with z | ⟨ob, xs, z⟩
        · rw [q] at z; cases z
        · obtain ⟨e1, _⟩ := hok b _ z
          obtain ⟨e2, _⟩ := hok' b _ (un.frzs b ob _ z)
          rw [e] at e1; cases e1
          exact e2
  have rv := vals_ints hi
  cases hk : K.lookup a with
  | some o =>
    have e := KX a o hk
    rw [ha] at e
    cases e
    exact core (fun _ => none) (fun _ => .inl rfl) (.inr ⟨_, vs.toArray, _, hk, rfl, rfl, rfl, by rw [List.size_toArray, hi.length]; exact hl, by simpa using rv⟩) (fun b u z => by cases z) (fun b z => absurd rfl z) fun z => absurd rfl z
  | none =>
    refine core (fun b => if b = a then some (.frz { cls := .type "list", data := .seq vs.toArray } (.lst (ns.map V.int))) else none) (fun b => ?_) (.inl (.inr ⟨{ cls := .type "list", data := .seq vs.toArray }, if_pos rfl⟩)) (fun b u z => ?_) (fun b z => ?_) fun _ => hk
    · by_cases hb : b = a
      · exact .inr ⟨_, _, if_pos hb⟩
      · exact .inl (if_neg hb)
    · by_cases hb : b = a
      · have z' := (if_pos hb).symm.trans z
        cases z'
        subst hb
        exact ⟨ha, by rw [List.length_map]; exact hl, vs, _, rv, ha⟩
      · cases (if_neg hb).symm.trans z
    · exact Classical.byContradiction fun hb => absurd (if_neg hb) z
theorem walk_ofG {l : PySem.W.OpenLaw} {n k : Nat} {q : Program} {loose : List Str} {XP : (Str → Option Value) → Heap → Prop} {YP : World → Heap → Prop} {d : DefRec} {CX : CXT} {x : Str} {lk : List Nat}
    (hn : l.most = some n) (hn2 : n ≤ sizeLine) (hdf : d.params.defaults = []) (hr : Room k callerA)
    (F : ∀ (w : World) (mg : Str → Option Value) (fa : Addr) (h : Heap), YP w h → h.Ns mainGlobals mg → mg d.name = some (.ref fa) →
      ∃ (K : PySem.W.Frag) (fd : FuncData), K.In h ∧ (∀ (s : Shared) (u : Value), BindsTo s fd ⟨[u], []⟩ [(x, u)]) ∧
        ∀ base : Heap, K.In base → base.Ns mainGlobals mg → FnG l.prog w K mg base CX k fa fd [x] (spV K mg lk 1 (lawS n)))
    (hCX : ∀ (H : Hp) (s : Shared) (e : Value) (s' : Shared), CX [] H s (fun _ _ _ => False) e s' → False) :
    PySem.W.WalkO q loose XP YP l.row.toRowW d [] (fun f vs => PySem.call f vs) := by
  refine Att.attach_call hn hdf fun w s₀ s₁ mg mb fa o pm cd doc a vs ns G Y ho hd hcd hmg hobj hints hlen hg => ?_
  obtain ⟨K, fd, KX, hb, hF⟩ := F w mg fa _ Y G.T.g hmg
  exact law_callG KX G.T.g G.T.b G.T.builtins G.T.nolimit hg hobj hints (Nat.le_trans hlen hn2) hr hF hb (fun H hO hS => lawSp hlen hO hS) fun H e s' => hCX H s₁ e s'
end DL

/-! The data layer, part 11: loops and comprehensions by what each turn keeps. -/
namespace DL
open PySem PySem.Spec PyProof.Rows L2

/-- one turn of a comprehension: K takes the new item, or none -/
def lcTurn (ws : List Nat) (g : DTG) (tt : DTT) (te : DT) (d : PyData) (st : List Vl) (K : Option PyData → List Vl → Prop) : Prop :=
  g (.fr d) st fun st2 => tt st2 fun b st3 => if b = true then te st3 fun y st4 => (match y with
    | .fr z => K (some z) (wipeD ws st4)
    | _ => False) else K none (wipeD ws st3)
/-- every turn leaves the state as it is and gives r d -/
theorem lc_pure {ws : List Nat} {cond : List Vl → Prop} {g : DTG} {tt : DTT} {te : DT} {Q : List PyData → List Vl → Prop} {st : List Vl} (r : PyData → Option PyData) (hc : cond st) :
    ∀ (items acc : List PyData), acc.length + items.length ≤ sizeLine → (∀ d ∈ items, ∀ K : Option PyData → List Vl → Prop, K (r d) st → lcTurn ws g tt te d st K) → Q (acc ++ items.filterMap r) st → lcGo ws cond g tt te Q items acc st
  | [], acc, _, _, q => by simpa [lcGo] using q
  | d :: ds, acc, hl, step, q => by
    rw [List.length_cons] at hl
    have h := step d List.mem_cons_self (fun o st' => match o with
      | some z => acc.length < sizeLine ∧ cond st' ∧ lcGo ws cond g tt te Q ds (acc ++ [z]) st'
      | none => cond st' ∧ lcGo ws cond g tt te Q ds acc st') (by
        cases e : r d with
        | none => exact ⟨hc, lc_pure r hc ds acc (by omega) (fun d hd => step d (List.mem_cons_of_mem _ hd)) (by rw [List.filterMap_cons, e] at q; exact q)⟩
        | some z => exact ⟨by omega, hc, lc_pure r hc ds (acc ++ [z]) (by rw [List.length_append, List.length_singleton]; omega) (fun d hd => step d (List.mem_cons_of_mem _ hd)) (by
            rw [List.filterMap_cons, e] at q
            rw [List.append_assoc]
            exact q)⟩)
    rw [lcGo]
    exact h
/-- the same over encoded items -/
theorem lc_map {α : Type} {ws : List Nat} {cond : List Vl → Prop} {g : DTG} {tt : DTT} {te : DT} {Q : List PyData → List Vl → Prop} {st : List Vl} (l : List α) (enc : α → PyData) (r : α → Option PyData) {items : List PyData} (hi : items = l.map enc) (hc : cond st) (hl : l.length ≤ sizeLine)
    (step : ∀ a ∈ l, ∀ K : Option PyData → List Vl → Prop, K (r a) st → lcTurn ws g tt te (enc a) st K) (q : Q (l.filterMap r) st) : lcGo ws cond g tt te Q items [] st := by
  subst hi
  have key : ∀ (l : List α) (acc : List PyData), acc.length + l.length ≤ sizeLine → (∀ a ∈ l, ∀ K : Option PyData → List Vl → Prop, K (r a) st → lcTurn ws g tt te (enc a) st K) → Q (acc ++ l.filterMap r) st → lcGo ws cond g tt te Q (l.map enc) acc st := by
    intro l
    induction l with
    | nil => intro acc _ _ q; simpa [lcGo] using q
    | cons a l ih =>
      intro acc hl step q
      rw [List.length_cons] at hl
      rw [List.map_cons, lcGo]
      refine step a List.mem_cons_self (fun o st' => match o with
        | some z => acc.length < sizeLine ∧ cond st' ∧ lcGo ws cond g tt te Q (l.map enc) (acc ++ [z]) st'
        | none => cond st' ∧ lcGo ws cond g tt te Q (l.map enc) acc st') ?_
      cases e : r a with
      | none => exact ⟨hc, ih acc (by omega) (fun d hd => step d (List.mem_cons_of_mem _ hd)) (by rw [List.filterMap_cons, e] at q; exact q)⟩
      | some z => exact ⟨by omega, hc, ih (acc ++ [z]) (by rw [List.length_append, List.length_singleton]; omega) (fun d hd => step d (List.mem_cons_of_mem _ hd)) (by
          rw [List.filterMap_cons, e] at q
          rw [List.append_assoc]
          exact q)⟩
  exact key l [] (by simpa using hl) step (by simpa using q)
theorem for_map {α : Type} {cond : List Vl → Prop} {g : DTG} {tb : DTS} {D : DEnds} (l : List α) (enc : α → PyData) (I : List α → List Vl → Prop) {items : List PyData} {st : List Vl} (hi : items = l.map enc) (h : I l st)
    (step : ∀ a l' st, I (a :: l') st → ∀ K : List Vl → Prop, (∀ st', I l' st' → cond st' → K st') → g (.fr (enc a)) st fun st2 => tb { D with nx := K, ct := K, bk := D.nx } st2)
    (fin : ∀ st, I [] st → D.nx st) : forGo cond g tb D items st := by
  subst hi
  induction l generalizing st with
  | nil => exact fin st h
  | cons a l ih =>
    rw [List.map_cons, forGo]
    exact step a l st h _ fun st' h' hc' => ⟨hc', ih h'⟩
end DL

/-! The data layer, part 12: short names for what gen.py prints. -/
namespace DL
open PySem PySem.Spec PyProof.Rows L2
abbrev kSub : DOp := gI (fun _ _ => True) fun i j => .int (i - j)
abbrev kMul : DOp := gI IntMulOk fun i j => .int (i * j)
abbrev kFdiv : DOp := gI CD fun i j => .int (i / j)
abbrev kMod : DOp := gI (fun _ j => 0 < j) fun i j => .int (i % j)
abbrev kPow : DOp := gI CPow fun i j => .int (i ^ j.toNat)
abbrev kLt : DOp := gI (fun _ _ => True) fun i j => .bool (decide (i < j))
abbrev kGt : DOp := gI (fun _ _ => True) fun i j => .bool (decide (j < i))
abbrev kGe : DOp := gI (fun _ _ => True) fun i j => .bool (decide (j ≤ i))
abbrev kleb : Int → Int → Bool := fun i j => decide (i ≤ j)
abbrev kAny : List Bool → Bool := fun bs => bs.any id
abbrev kAll : List Bool → Bool := fun bs => bs.all id
/-- BlkOk by a run -/
def blkB (N : List Str) (sc scope : Scope) (own : List (Str × Nat)) : Bool :=
  decide (scope.kind = .function) && scope.names.all (fun y => decide (scope.names.lookup y.1 = some y.2)) && own.all (fun p => decide (N[p.2]? = some p.1)) &&
  scope.names.all (fun y => !decide (y.2 = .free) || (decide (sc.names.lookup y.1 = some .cell) || decide (sc.names.lookup y.1 = some .free))) &&
  scope.names.all (fun y => !(decide (y.2 = .local) || decide (y.2 = .cell)) || ((own.map (·.1)).contains y.1 || !N.contains y.1))
theorem blk_ok {N : List Str} {sc scope : Scope} {own : List (Str × Nat)} (h : blkB N sc scope own = true) : BlkOk N sc scope own := by
  unfold blkB at h
  simp only [Bool.and_eq_true] at h
  obtain ⟨⟨⟨⟨h1, h2⟩, h3⟩, h4⟩, h5⟩ := h
  refine ⟨of_decide_eq_true h1, fun y hy => of_decide_eq_true (List.all_eq_true.mp h2 y hy), fun p hp => of_decide_eq_true (List.all_eq_true.mp h3 p hp), fun y hy e => ?_, fun y hy e => ?_⟩
  · have := List.all_eq_true.mp h4 y hy
    rw [decide_eq_true e, Bool.not_true, Bool.false_or, Bool.or_eq_true] at this
    exact this.imp of_decide_eq_true of_decide_eq_true
  · have := List.all_eq_true.mp h5 y hy
    have e' : (decide (y.2 = .local) || decide (y.2 = .cell)) = true := by
      rcases e with e | e
      · rw [decide_eq_true e]; rfl
      · rw [decide_eq_true e, Bool.or_true]
    rw [e', Bool.not_true, Bool.false_or, Bool.or_eq_true] at this
    rcases this with z | z
    · exact .inl (List.contains_iff_mem.mp z)
    · refine .inr fun q => ?_
      rw [List.contains_iff_mem.mpr q] at z
      cases z
theorem un0 {k : Nat} {A : Around} (hr : Room k A) : A.units + 100 < cLine := by have := hr.un; omega
theorem le_frz {K : PySem.W.Frag} {B : Ba} {lk : List Nat} {t : DT} {σ : L2.St} {H : Hp} {Q : VK} (h : LE K B lk (cFrz t) σ H Q) : LE K B lk t σ H Q := by
  obtain ⟨lv, st, tm, tv, Q0, L, R, h, k⟩ := h
  refine ⟨lv, st, tm, tv, _, L, R, h, fun d st' v H' q R' => ?_⟩
  cases d with
  | fr x => exact k _ _ _ _ q R'
  | ow ds => exact k _ _ _ _ q R'.frzTop
  | cst c => exact k _ _ _ _ q R'
  | bor i =>
    try dsimp only at q
    cases z : st'[i]? with
    | none => rw [z] at q; exact q.elim
    | some d =>
      rw [z] at q
      cases d with
      | ow ds => exact k _ _ _ _ q (R'.frzAlias z)
      | _ => exact False.elim q
  | _ => exact False.elim q
end DL

/-! The data layer, part 13: plain facts about data that laws share. -/
namespace DL
open PySem PySem.Spec PyProof.Rows L2
/-- a tuple, a list of whole numbers -/
abbrev pt (xs : List Int) : PyData := .tuple (xs.map .int)
abbrev pl (xs : List Int) : PyData := .list (xs.map .int)
abbrev pts (ps : List (List Int)) : PyData := .tuple (ps.map pt)
theorem eqvAll_ints : ∀ xs ys : List Int, PyData.eqvAll (xs.map .int) (ys.map .int) = decide (xs = ys) := fun xs ys => PySem.W.eqvAll_map xs ys
theorem eqv_int (x y : Int) : PyData.eqv (.int x) (.int y) = decide (x = y) := PySem.W.Datum.eqv x y
theorem eqv_bool (x y : Bool) : PyData.eqv (.bool x) (.bool y) = decide (x = y) := PySem.W.Datum.eqv x y
theorem eqv_pt (xs ys : List Int) : PyData.eqv (pt xs) (pt ys) = decide (xs = ys) := by rw [pt, pt, PyData.eqv, eqvAll_ints]
theorem eqv_pl (xs ys : List Int) : PyData.eqv (pl xs) (pl ys) = decide (xs = ys) := by rw [pl, pl, PyData.eqv, eqvAll_ints]
theorem eqv_nil (xs : List PyData) : PyData.eqv (.list xs) (.list []) = xs.isEmpty := by
  cases xs <;> simp [PyData.eqv, PyData.eqvAll]
theorem dep_ints (k : Nat) (xs : List Int) : (xs.map PyData.int).all (dep k) = true := by
  rw [List.all_map]
  exact List.all_eq_true.mpr fun x _ => by cases k <;> rfl
theorem dep_pt (k : Nat) (xs : List Int) : dep (k + 1) (pt xs) = true := by simp only [dep]; exact dep_ints k xs
theorem dep_pt60 (xs : List Int) : dep 60 (pt xs) = true := dep_pt 59 xs
theorem dep_int (k : Nat) (i : Int) : dep k (.int i) = true := by cases k <;> rfl
theorem dep_bool (k : Nat) (i : Bool) : dep k (.bool i) = true := by cases k <;> rfl
theorem zip_ints (xs ys : List Int) : zip2D (xs.map .int) (ys.map .int) = (xs.zip ys).map fun p => .tuple [.int p.1, .int p.2] := by
  unfold zip2D
  rw [List.zipWith_map, List.zip, List.map_zipWith]
theorem small {n k : Nat} (h : n ≤ k) (hk : k ≤ 16777216 := by decide) : n ≤ sizeLine := by rw [sizeLine_eq]; omega
theorem enum_map {α : Type} (f : α → PyData) : ∀ (xs : List α) (k : Nat), enumD k (xs.map f) = (xs.zipIdx k).map fun p => .tuple [.int (p.2 : Nat), f p.1]
  | [], _ => rfl
  | x :: xs, k => by rw [List.map_cons, enumD, enum_map f xs (k + 1), List.zipIdx_cons, List.map_cons]
theorem rng0 (n : Nat) : rng 0 (n : Int) = (List.range n).map fun i => .int (i : Nat) := by
  unfold rng
  rw [Int.sub_zero, Int.toNat_natCast]
  congr 1
  funext i
  rw [Int.zero_add]
theorem cut_take {k : Nat} (xs : List PyData) : cut xs none (some (k : Int)) = xs.take k := by
  unfold cut
  rw [HT.sIx_none, HT.sIx_nat, List.drop_zero, Nat.sub_zero]
  by_cases h : k ≤ xs.length
  · rw [Nat.min_eq_left h]
  · rw [Nat.min_eq_right (by omega), List.take_length, List.take_of_length_le (by omega)]
theorem cut_drop {k : Nat} (xs : List PyData) : cut xs (some (k : Int)) none = xs.drop k := by
  unfold cut
  rw [HT.sIx_none, HT.sIx_nat]
  by_cases h : k ≤ xs.length
  · rw [Nat.min_eq_left h, List.take_of_length_le (by rw [List.length_drop]; exact Nat.le_refl _)]
  · rw [Nat.min_eq_right (by omega), List.drop_length, List.drop_eq_nil_of_le (by omega), List.take_nil]
theorem ixN_ok {n i : Nat} (h : i < n) : ixN n (i : Int) = some i := by
  unfold ixN
  rw [if_pos (by omega), if_pos (by omega), Int.toNat_natCast]
theorem ixN_int {n : Nat} {i : Int} (h0 : 0 ≤ i) (h : i < n) : ixN n i = some i.toNat := by
  unfold ixN
  rw [if_pos h0, if_pos h]
theorem atI_int {α : Type} {xs : List α} {i : Int} (h0 : 0 ≤ i) (h : i < xs.length) : atI xs i = xs[i.toNat]? := by
  unfold atI
  rw [ixN_int h0 h]
  rfl
theorem atI_ok {α : Type} {xs : List α} {i : Nat} {d : α} (h : xs[i]? = some d) : atI xs (i : Int) = some d := by
  unfold atI
  have hl := (List.getElem?_eq_some_iff.mp h).1
  rw [ixN_ok hl]
  exact h
theorem atI_0 {α : Type} (x : α) (xs : List α) : atI (x :: xs) 0 = some x := by
  rw [atI_int (by omega) (by rw [List.length_cons]; omega)]; rfl
theorem atI_1 {α : Type} (x y : α) (xs : List α) : atI (x :: y :: xs) 1 = some y := by
  rw [atI_int (by omega) (by simp only [List.length_cons]; omega)]; rfl
theorem atI_2 {α : Type} (x y z : α) (xs : List α) : atI (x :: y :: z :: xs) 2 = some z := by
  rw [atI_int (by omega) (by simp only [List.length_cons]; omega)]; rfl
theorem ixN_30 : ixN 3 0 = some 0 := rfl
theorem ixN_32 : ixN 3 2 = some 2 := rfl
/-- a pick of a list of numbers, all of which are alike -/
theorem atI_all {P : Int → Prop} {xs : List PyData} {i : Int} (h0 : 0 ≤ i) (h : i < xs.length) (hp : ∀ d ∈ xs, ∃ p, d = .int p ∧ P p) : ∃ p, atI xs i = some (.int p) ∧ P p := by
  rw [atI_int h0 h]
  have hl : i.toNat < xs.length := by omega
  obtain ⟨p, e, q⟩ := hp _ (List.getElem_mem hl)
  exact ⟨p, by rw [List.getElem?_eq_getElem hl, e], q⟩
/-! sorting, texts -/
theorem sort_ints (xs : List Int) : (xs.map PyData.int).mergeSort (PySem.W.dataLe false id) = (xs.mergeSort fun a b => decide (a ≤ b)).map .int := by
  have h := PySem.W.dataLe_int (β := Int) (fun b => b)
  rw [← h]
  exact (List.map_mergeSort (r := PySem.W.dataLe false fun b : Int => PyData.int b) (s := PySem.W.dataLe false id) (f := PyData.int) (l := xs) fun _ _ _ _ => rfl).symm
theorem alike_ints' (xs : List Int) : PySem.W.AllAlike (xs.map .int) := .of fun _ _ => rfl
theorem sortable_ints (xs : List Int) : PySem.W.Sortable (xs.map .int) := .others fun _ => ⟨(by intro h; cases h), fun _ h => by cases h⟩
end DL

/-! The data layer, part 14: reading step by step. -/
namespace DL
open PySem PySem.Spec PyProof.Rows L2
section
variable {st st' : List Vl} {Q : Vl → List Vl → Prop} {QB : Bool → List Vl → Prop} {QA : List Vl → List Vl → Prop} {QO : Option Int → List Vl → Prop} {d : Vl} {i j : Nat} {a b : Int} {x y : PyData} {xs ys : List PyData} {ta tb tc : DT} {t u : DTT} {v w : Vl} {e f : Bool} {D : DEnds}
theorem s_K (h : Q d st) : cK d st Q := h
theorem s_varF (e : st[i]? = some (.fr x)) (h : Q (.fr x) st) : cVar i st Q := by unfold cVar; rw [e]; exact h
theorem s_varO (e : st[i]? = some (.ow xs)) (h : Q (.bor i) st) : cVar i st Q := by unfold cVar; rw [e]; exact h
theorem s_varS {ns : List Int} (e : st[i]? = some (.scr ns)) (h : Q (.scr ns) st) : cVar i st Q := by unfold cVar; rw [e]; exact h
def FrK (d : Vl) (st' : List Vl) (Q : Vl → List Vl → Prop) : Prop := match d with
  | .bor i => match st'[i]? with
    | some (.ow ds) => Q (.fr (.list ds)) (st'.set i (.fr (.list ds)))
    | _ => False
  | .ow ds => Q (.fr (.list ds)) st'
  | .fr d => Q (.fr d) st'
  | .cst c => Q (.cst c) st'
  | _ => False
theorem s_frz (h : ta st fun d st' => FrK d st' Q) : cFrz ta st Q := h
theorem s_frzF (h : Q (.fr x) st) : FrK (.fr x) st Q := h
theorem s_frzO (h : Q (.fr (.list xs)) st) : FrK (.ow xs) st Q := h
theorem s_frzB (e : st[i]? = some (.ow xs)) (h : Q (.fr (.list xs)) (st.set i (.fr (.list xs)))) : FrK (.bor i) st Q := by
  show (match st[i]? with
    | some (.ow ds) => Q (.fr (.list ds)) (st.set i (.fr (.list ds)))
    | _ => False)
  rw [e]; exact h
theorem s_c2 {g : DOp} (h : ta st fun x st1 => tb st1 fun y st2 => g st2 x y Q) : c2 g ta tb st Q := h
theorem s_c1 {g : List Vl → Vl → (Vl → List Vl → Prop) → Prop} (h : ta st fun x st1 => g st1 x Q) : c1 g ta st Q := h
theorem s_neg (h : Q (.fr (.int (-a))) st) : gNeg st (.fr (.int a)) Q := h
theorem s_gT {fn : Int → Int → PyData} (h : Q (.fr (fn a b)) st) : gI (fun _ _ => True) fn st (.fr (.int a)) (.fr (.int b)) Q := ⟨trivial, h⟩
theorem s_mul (c : IntMulOk a b) (h : Q (.fr (.int (a * b))) st) : kMul st (.fr (.int a)) (.fr (.int b)) Q := ⟨c, h⟩
theorem s_mod (c : 0 < b) (h : Q (.fr (.int (a % b))) st) : kMod st (.fr (.int a)) (.fr (.int b)) Q := ⟨c, h⟩
theorem s_fdiv (c1 : 0 < b) (c2 : b < 2 ^ 1000) (h : Q (.fr (.int (a / b))) st) : kFdiv st (.fr (.int a)) (.fr (.int b)) Q := ⟨⟨c1, c2⟩, h⟩
theorem s_pow {c : Int} (c1 : 0 ≤ b) (c2 : b ≤ 1000000) (c3 : a.natAbs < 2 ^ 64) (e : a ^ b.toNat = c) (h : Q (.fr (.int c)) st) : kPow st (.fr (.int a)) (.fr (.int b)) Q := by subst e; exact ⟨⟨c1, c2, c3⟩, h⟩
theorem s_addI (h : Q (.fr (.int (a + b))) st) : gAdd st (.fr (.int a)) (.fr (.int b)) Q := h
theorem s_addL (e1 : pyT st v = some (.list xs)) (e2 : pyT st w = some (.list ys)) (hz : xs.length + ys.length ≤ sizeLine) (h : Q (.ow (xs ++ ys)) st) : gAdd st v w Q := by unfold gAdd; rw [e1, e2]; exact ⟨hz, h⟩
theorem s_addT (e1 : pyT st v = some (.tuple xs)) (e2 : pyT st w = some (.tuple ys)) (hz : xs.length + ys.length ≤ sizeLine) (h : Q (.fr (.tuple (xs ++ ys))) st) : gAdd st v w Q := by unfold gAdd; rw [e1, e2]; exact ⟨hz, h⟩
theorem s_eq (e1 : pyO st v = some x) (e2 : pyO st w = some y) (h1 : dep 60 x = true) (h2 : dep 60 y = true) (h : Q (.fr (.bool (PyData.eqv x y))) st) : gEq false st v w Q := by unfold gEq; rw [e1, e2]; exact ⟨h1, h2, h⟩
theorem s_ne (e1 : pyO st v = some x) (e2 : pyO st w = some y) (h1 : dep 60 x = true) (h2 : dep 60 y = true) (h : Q (.fr (.bool (!PyData.eqv x y))) st) : gEq true st v w Q := by unfold gEq; rw [e1, e2]; exact ⟨h1, h2, h⟩
theorem s_inT (e1 : pyO st v = some x) (e2 : pyO st w = some (.tuple ys)) (h1 : dep 60 x = true) (h2 : ys.all (dep 60) = true) (h : Q (.fr (.bool (ys.any fun z => PyData.eqv z x))) st) : gIn false st v w Q := by unfold gIn; rw [e1, e2]; exact ⟨h1, h2, h⟩
theorem s_ninT (e1 : pyO st v = some x) (e2 : pyO st w = some (.tuple ys)) (h1 : dep 60 x = true) (h2 : ys.all (dep 60) = true) (h : Q (.fr (.bool (!ys.any fun z => PyData.eqv z x))) st) : gIn true st v w Q := by unfold gIn; rw [e1, e2]; exact ⟨h1, h2, h⟩
theorem s_ixL (e1 : pyO st v = some (.list xs)) (e2 : atI xs a = some x) (h : Q (.fr x) st) : gIx st v (.fr (.int a)) Q := by unfold gIx; rw [e1]; exact ⟨x, e2, h⟩
theorem s_ixT (e1 : pyO st v = some (.tuple xs)) (e2 : atI xs a = some x) (h : Q (.fr x) st) : gIx st v (.fr (.int a)) Q := by unfold gIx; rw [e1]; exact ⟨x, e2, h⟩
def TsK (d : Vl) (st' : List Vl) (Q : Bool → List Vl → Prop) : Prop := match d with
  | .fr (.bool b) => Q b st'
  | _ => False
theorem s_tst (h : ta st fun d st' => TsK d st' QB) : cTst ta st QB := h
theorem s_tstK (h : QB e st) : TsK (.fr (.bool e)) st QB := h
/-- a branch -/
def BR (b : Bool) (A B : Prop) : Prop := if b = true then A else B
theorem s_brT {A B : Prop} (h : A) : BR true A B := h
theorem s_brF {A B : Prop} (h : B) : BR false A B := h
theorem s_br {A B : Prop} {b : Bool} (h1 : b = true → A) (h2 : b = false → B) : BR b A B := by
  unfold BR
  cases b with
  | true => exact h1 rfl
  | false => exact h2 rfl
theorem s_brD {A B P : Prop} [Decidable P] (h1 : P → A) (h2 : ¬ P → B) : BR (decide P) A B := s_br (fun h => h1 (of_decide_eq_true h)) fun h => h2 (of_decide_eq_false h)
theorem s_brN {A B : Prop} {b : Bool} (h : BR b B A) : BR (!b) A B := by cases b <;> exact h
theorem s_brE {α : Type} {l : List α} {A B : Prop} (h1 : l = [] → A) (h2 : l ≠ [] → B) : BR l.isEmpty A B := s_br (fun h => h1 (List.isEmpty_iff.mp h)) fun h => h2 (fun e => by rw [e] at h; cases h)
theorem s_brEq {A B : Prop} {b c : Bool} (e : b = c) (h : BR c A B) : BR b A B := e ▸ h
theorem s_and (h : t st fun c st1 => BR c (u st1 QB) (QB false st1)) : cAnd t u st QB := h
theorem s_or (h : t st fun c st1 => BR c (QB true st1) (u st1 QB)) : cOr t u st QB := h
theorem s_not (h : t st fun c st1 => QB (!c) st1) : cNot t st QB := h
def AvK (tb : DT) (d : Vl) (st1 : List Vl) (Q : Vl → List Vl → Prop) : Prop := match d with
  | .fr (.bool c) => if c = true then tb st1 Q else Q (.fr (.bool false)) st1
  | _ => False
theorem s_andV (h : ta st fun d st1 => AvK tb d st1 Q) : cAndV ta tb st Q := h
theorem s_andVK (h : BR e (tb st Q) (Q (.fr (.bool false)) st)) : AvK tb (.fr (.bool e)) st Q := h
def NvK (d : Vl) (st1 : List Vl) (Q : Vl → List Vl → Prop) : Prop := match d with
  | .fr (.bool c) => Q (.fr (.bool (!c))) st1
  | _ => False
theorem s_notV (h : ta st fun d st1 => NvK d st1 Q) : cNotV ta st Q := h
theorem s_notVK (h : Q (.fr (.bool (!e))) st) : NvK (.fr (.bool e)) st Q := h
def ChK (p q : Int → Int → Bool) (tc : DT) (x y : Vl) (st2 : List Vl) (Q : Vl → List Vl → Prop) : Prop := match x, y with
  | .fr (.int i), .fr (.int j) => if p i j = true then tc st2 fun z st3 => (match z with | .fr (.int k) => Q (.fr (.bool (q j k))) st3 | _ => False) else Q (.fr (.bool false)) st2
  | _, _ => False
theorem s_ch {p q : Int → Int → Bool} (h : ta st fun x st1 => tb st1 fun y st2 => ChK p q tc x y st2 Q) : cCh p q ta tb tc st Q := h
def CiK (z : Vl) (st3 : List Vl) (q : Int → Bool) (Q : Vl → List Vl → Prop) : Prop := match z with | .fr (.int k) => Q (.fr (.bool (q k))) st3 | _ => False
theorem s_chK {p q : Int → Int → Bool} (h : BR (p a b) (tc st fun z st3 => CiK z st3 (q b) Q) (Q (.fr (.bool false)) st)) : ChK p q tc (.fr (.int a)) (.fr (.int b)) st Q := h
theorem s_ciK {q : Int → Bool} (h : Q (.fr (.bool (q a))) st) : CiK (.fr (.int a)) st q Q := h
theorem s_nil (h : QA [] st) : cNil st QA := h
theorem s_cons {tr : DTA} (h : ta st fun x st1 => tr st1 fun xs st2 => QA (x :: xs) st2) : cCons ta tr st QA := h
def TuK (ds : List Vl) (st' : List Vl) (Q : Vl → List Vl → Prop) : Prop := match DL.frs ds with
  | some xs => xs.length ≤ sizeLine ∧ Q (.fr (.tuple xs)) st'
  | none => False
theorem s_tup {tr : DTA} (h : tr st fun ds st' => TuK ds st' Q) : cTup tr st Q := h
theorem s_tupK {ds : List Vl} (e : DL.frs ds = some xs) (hz : xs.length ≤ 1000) (h : Q (.fr (.tuple xs)) st) : TuK ds st Q := by unfold TuK; rw [e]; exact ⟨small hz, h⟩
def LsK (ds : List Vl) (st' : List Vl) (Q : Vl → List Vl → Prop) : Prop := match DL.frs ds with
  | some xs => xs.length ≤ sizeLine ∧ Q (.ow xs) st'
  | none => False
theorem s_lst {tr : DTA} (h : tr st fun ds st' => LsK ds st' Q) : cLst tr st Q := h
theorem s_lstK {ds : List Vl} (e : DL.frs ds = some xs) (hz : xs.length ≤ 1000) (h : Q (.ow xs) st) : LsK ds st Q := by unfold LsK; rw [e]; exact ⟨small hz, h⟩
/-! calls -/
def UpK (ds' ds st : List Vl) (Q : List Vl → Prop) : Prop := Q (upds ds' 0 ds st)
theorem s_up {ds' ds : List Vl} {QT : List Vl → Prop} (e : upds ds' 0 ds st = st') (h : QT st') : UpK ds' ds st QT := by subst e; exact h
def ClK (lk : List Nat) (S : VSp) (ds st1 : List Vl) (Q : Vl → List Vl → Prop) : Prop := S (ds.map (res st1)) (fun r ds' => UpK ds' ds st1 (Q r)) fun _ _ => False
theorem s_call {lk : List Nat} {S : VSp} {tr : DTA} (h : tr st fun ds st1 => okB lk 0 ds = true ∧ ClK lk S ds st1 Q) : cCall lk S tr st Q := h
theorem s_fn {g : GF} {tr : DTA} (h : tr st fun ds st' => g st' ds fun d => Q d st') : cFn g tr st Q := h
theorem s_g1 {g : List Vl → Vl → (Vl → Prop) → Prop} {QF : Vl → Prop} (h : g st v QF) : g1 g st [v] QF := h
section
variable {QF : Vl → Prop}
theorem s_g2 {fn : Int → Int → Int} (h : QF (.fr (.int (fn a b)))) : g2I fn st [.fr (.int a), .fr (.int b)] QF := h
theorem s_lenL (e1 : pyO st v = some (.list xs)) (h : QF (.fr (.int xs.length))) : gLen st v QF := by unfold gLen; rw [e1]; exact h
theorem s_lenT (e1 : pyO st v = some (.tuple xs)) (h : QF (.fr (.int xs.length))) : gLen st v QF := by unfold gLen; rw [e1]; exact h
theorem s_lst2 (e1 : pyO st v = some (.tuple xs)) (h : QF (.ow xs)) : DL.gLst st v QF := by unfold DL.gLst; rw [e1]; exact h
theorem s_tpl1 (e1 : pyO st v = some (.list xs)) (h : QF (.fr (.tuple xs))) : gTpl st v QF := by unfold gTpl; rw [e1]; exact h
theorem s_bools {fn : List Bool → Bool} (bs : List Bool) (e1 : pyO st v = some (.list xs)) (e2 : xs = bs.map .bool) (h : QF (.fr (.bool (fn bs)))) : gBools fn st v QF := ⟨bs, by rw [e1, e2], h⟩
theorem s_srt (e1 : pyO st v = some (.list xs)) (h1 : PySem.W.AllAlike xs) (h2 : PySem.W.Sortable xs) (h3 : xs.all (dep 60) = true) (h : QF (.ow (xs.mergeSort (PySem.W.dataLe false id)))) : gSrt st v QF := by unfold gSrt; rw [e1]; exact ⟨h1, h2, h3, h⟩
end
section
variable {QF : Vl → Prop}
end
theorem s_ixI {f : Int → Prop} (e1 : pyO st v = some (.list xs)) (e2 : ∃ p, atI xs a = some (.int p) ∧ f p) (h : ∀ p, f p → Q (.fr (.int p)) st) : gIx st v (.fr (.int a)) Q := by
  obtain ⟨p, e, hp⟩ := e2
  exact s_ixL e1 e (h p hp)
/-! slices -/
theorem s_noP (h : QO none st) : cNoP st QO := h
def PtK (d : Vl) (st' : List Vl) (Q : Option Int → List Vl → Prop) : Prop := match d with
  | .fr (.int i) => Q (some i) st'
  | _ => False
theorem s_pt (h : ta st fun d st' => PtK d st' QO) : cPt ta st QO := h
theorem s_ptK (h : QO (some a) st) : PtK (.fr (.int a)) st QO := h
def SlK (d : Vl) (lo hi : Option Int) (st3 : List Vl) (Q : Vl → List Vl → Prop) : Prop := match pyO st3 d with
  | some (.list xs) => Q (.ow (cut xs lo hi)) st3
  | some (.tuple xs) => Q (.fr (.tuple (cut xs lo hi))) st3
  | some (.str x) => x.length ≤ sizeLine ∧ Q (.fr (.str (cutS x lo hi))) st3
  | _ => False
theorem s_sl {tl th : DTO} (h : ta st fun d st1 => tl st1 fun lo st2 => th st2 fun hi st3 => SlK d lo hi st3 Q) : cSl ta tl th st Q := h
theorem s_slL {lo hi : Option Int} (e1 : pyO st v = some (.list xs)) (h : Q (.ow (cut xs lo hi)) st) : SlK v lo hi st Q := by unfold SlK; rw [e1]; exact h
theorem s_slT {lo hi : Option Int} (e1 : pyO st v = some (.tuple xs)) (h : Q (.fr (.tuple (cut xs lo hi))) st) : SlK v lo hi st Q := by unfold SlK; rw [e1]; exact h
def RvK (d : Vl) (st1 : List Vl) (Q : Vl → List Vl → Prop) : Prop := match pyO st1 d with
  | some (.list xs) => Q (.ow xs.reverse) st1
  | some (.tuple xs) => Q (.fr (.tuple xs.reverse)) st1
  | _ => False
theorem s_rev (h : ta st fun d st1 => RvK d st1 Q) : cRev ta st Q := h
theorem s_revT (e1 : pyO st v = some (.tuple xs)) (h : Q (.fr (.tuple xs.reverse)) st) : RvK v st Q := by unfold RvK; rw [e1]; exact h
/-! methods -/
def MtK (g : GM) (tr : DTA) (d : Vl) (st1 : List Vl) (Q : Vl → List Vl → Prop) : Prop := match d with
  | .bor i => (∃ xs, st1[i]? = some (.ow xs)) ∧ tr st1 fun ds st2 => (match st2[i]?, DL.frs ds with
    | some (.ow xs), some ys => g xs ys fun zs y => Q (.fr y) (st2.set i (.ow zs))
    | _, _ => False)
  | _ => False
/-- an owned list is put back -/
def StK (i : Nat) (zs : List PyData) (st : List Vl) (Q : List Vl → Prop) : Prop := Q (st.set i (.ow zs))
theorem s_st {QT : List Vl → Prop} {zs : List PyData} (e : st.set i (.ow zs) = st') (h : QT st') : StK i zs st QT := by subst e; exact h
def M2K (g : GM) (i : Nat) (ds st2 : List Vl) (Q : Vl → List Vl → Prop) : Prop := match st2[i]?, DL.frs ds with
    | some (.ow xs), some ys => g xs ys fun zs y => Q (.fr y) (st2.set i (.ow zs))
    | _, _ => False
theorem s_mth {g : GM} {tr : DTA} (h : ta st fun d st1 => MtK g tr d st1 Q) : cMth' g ta tr st Q := h
theorem s_mthK {g : GM} {tr : DTA} (e : st[i]? = some (.ow xs)) (h : tr st fun ds st2 => M2K g i ds st2 Q) : MtK g tr (.bor i) st Q := ⟨⟨xs, e⟩, h⟩
theorem s_mth2 {g : GM} {ds : List Vl} (e : st[i]? = some (.ow xs)) (e2 : DL.frs ds = some ys) (h : g xs ys fun zs y => StK i zs st fun st' => Q (.fr y) st') : M2K g i ds st Q := by unfold M2K; rw [e, e2]; exact h
theorem s_app {R : List PyData → PyData → Prop} (hz : xs.length < sizeLine) (h : R (xs ++ [y]) .none) : gApp xs [y] R := ⟨hz, h⟩
theorem s_ins {R : List PyData → PyData → Prop} (hz : xs.length < sizeLine) (h0 : 0 ≤ a) (h1 : a < 2 ^ 63) (h : R (xs.take a.toNat ++ [y] ++ xs.drop a.toNat) .none) : gIns xs [.int a, y] R := ⟨hz, h0, h1, h⟩
/-! targets, statements -/
section
variable {QT : List Vl → Prop}
def isBo : Vl → Bool
  | .bor _ => true
  | _ => false
theorem nbor {d : Vl} (h : isBo d = false) : ∀ j, d ≠ .bor j := fun j e => by subst e; cases h
theorem s_nm (h1 : isBo d = false) (h2 : Nat.ble (i + 1) st.length = true) (e : st.set i d = st') (h : QT st') : gNm i d st QT := ⟨nbor h1, Nat.le_of_ble_eq_true h2, e ▸ h⟩
theorem s_nmI {n : Int} (P : Int → Prop) (h2 : Nat.ble (i + 1) st.length = true) (hp : P n) (h : ∀ m, P m → QT (st.set i (.fr (.int m)))) : gNm i (.fr (.int n)) st QT := s_nm rfl h2 rfl (h n hp)
def SbK (o i d : Vl) (st2 : List Vl) (Q : List Vl → Prop) : Prop := match o, i, d with
  | .bor s, .fr (.int k), .fr y => (match st2[s]? with
    | some (.ow xs) => ∃ j, ixN xs.length k = some j ∧ Q (st2.set s (.ow (xs.set j y)))
    | _ => False)
  | _, _, _ => False
theorem s_sub (h : ta st fun o st1 => tb st1 fun i st2 => SbK o i d st2 QT) : DL.gSub ta tb d st QT := h
theorem s_subK {zs : List PyData} (e : st[i]? = some (.ow xs)) (e2 : ixN xs.length a = some j) (e3 : xs.set j y = zs) (e4 : st.set i (.ow zs) = st') (h : QT st') : SbK (.bor i) (.fr (.int a)) (.fr y) st QT := by
  subst e3 e4
  show (match st[i]? with
    | some (.ow xs) => ∃ j, ixN xs.length a = some j ∧ QT (st.set i (.ow (xs.set j y)))
    | _ => False)
  rw [e]; exact ⟨j, e2, h⟩
theorem s_tu {n : Nat} {gs : DTGs} (e : xs.length = n) (h : gs xs st QT) : gTu n gs (.fr (.tuple xs)) st QT := ⟨e, h⟩
theorem s_gsn (h : QT st) : gsNil [] st QT := ⟨rfl, h⟩
theorem s_gsc {g : DTG} {gs : DTGs} (h : g (.fr x) st fun st' => gs xs st' QT) : gsCons g gs (x :: xs) st QT := h
end
theorem s_next (h : D.nx st) : cNext D st := h
theorem s_seq {t u : DTS} (h : t { D with nx := u D } st) : cSeq t u D st := h
/-- both ways of t lead to I -/
theorem s_seqCut {t u : DTS} (I : List Vl → Prop) (h1 : ∀ K : List Vl → Prop, (∀ st', I st' → K st') → t { D with nx := K } st) (h2 : ∀ st', I st' → u D st') : cSeq t u D st := h1 _ h2
theorem s_drop (h : ta st fun _ st' => D.nx st') : cDrop ta D st := h
theorem s_ret (h : ta st fun d st' => (∀ i, d ≠ .bor i) ∧ D.rt d st') : cRet ta D st := h
theorem s_ifS {c : DTT} {t u : DTS} (h : c st fun b st1 => BR b (t D st1) (u D st1)) : cIfS c t u D st := h
theorem s_asg {g : DTG} (h : ta st fun d st' => g d st' D.nx) : cAsg ta g D st := h
def PaK (i j : Nat) (D : DEnds) (ds st' : List Vl) : Prop := match ds with
  | [x, y] => (∀ k, x ≠ .bor k) ∧ (∀ k, y ≠ .bor k) ∧ i < st'.length ∧ j < st'.length ∧ D.nx ((st'.set j y).set i x)
  | _ => False
theorem s_par {tr : DTA} (h : tr st fun ds st' => PaK i j D ds st') : cPar i j tr D st := h
theorem s_parK (h1 : isBo v = false) (h2 : isBo w = false) (h3 : Nat.ble (i + 1) st.length = true) (h4 : Nat.ble (j + 1) st.length = true) (e : (st.set j w).set i v = st') (h : D.nx st') : PaK i j D [v, w] st := ⟨nbor h1, nbor h2, Nat.le_of_ble_eq_true h3, Nat.le_of_ble_eq_true h4, e ▸ h⟩
/-! what is walked -/
abbrev QIt := List PyData → List Vl → (List Vl → Prop) → List Vl → Prop
variable {QI : QIt}
def SqK (d : Vl) (st' : List Vl) (Q : QIt) : Prop := match d with
  | .ow ds => Q ds [.fr (.list ds)] (fun _ => True) st'
  | .fr (.list ds) => Q ds [d] (fun _ => True) st'
  | .fr (.tuple ds) => Q ds [d] (fun _ => True) st'
  | .scr ns => Q (ns.map .int) [d] (fun _ => True) st'
  | .bor i => (match st'[i]? with
    | some (.ow ds) => Q ds [d] (fun st => st[i]? = some (.ow ds)) st'
    | _ => False)
  | _ => False
theorem s_seqI (h : ta st fun d st' => SqK d st' QI) : cSeqI ta st QI := h
theorem s_sqO (h : QI xs [.fr (.list xs)] (fun _ => True) st) : SqK (.ow xs) st QI := h
theorem s_sqL (h : QI xs [.fr (.list xs)] (fun _ => True) st) : SqK (.fr (.list xs)) st QI := h
theorem s_sqT (h : QI xs [.fr (.tuple xs)] (fun _ => True) st) : SqK (.fr (.tuple xs)) st QI := h
theorem s_sqB (e : st[i]? = some (.ow xs)) (h : QI xs [.bor i] (fun st => st[i]? = some (.ow xs)) st) : SqK (.bor i) st QI := by
  show (match st[i]? with
    | some (.ow ds) => QI ds [.bor i] (fun st => st[i]? = some (.ow ds)) st
    | _ => False)
  rw [e]; exact h
def R1K (ds st' : List Vl) (Q : QIt) : Prop := match ds with
  | [.fr (.int j)] => -(2 ^ 62) ≤ j ∧ j < 2 ^ 62 ∧ Q (rng 0 j) [] (fun _ => True) st'
  | _ => False
theorem s_rng1 {tr : DTA} (h : tr st fun ds st' => R1K ds st' QI) : cRng1 tr st QI := h
theorem s_rng1K (h1 : -(2 ^ 62) ≤ a) (h2 : a < 2 ^ 62) (h : QI (rng 0 a) [] (fun _ => True) st) : R1K [.fr (.int a)] st QI := ⟨h1, h2, h⟩
def R2K (ds st' : List Vl) (Q : QIt) : Prop := match ds with
  | [.fr (.int i), .fr (.int j)] => -(2 ^ 62) ≤ i ∧ i < 2 ^ 62 ∧ -(2 ^ 62) ≤ j ∧ j < 2 ^ 62 ∧ Q (rng i j) [] (fun _ => True) st'
  | _ => False
theorem s_rng2 {tr : DTA} (h : tr st fun ds st' => R2K ds st' QI) : cRng2 tr st QI := h
theorem s_rng2K (h1 : -(2 ^ 62) ≤ a) (h2 : a < 2 ^ 62) (h3 : -(2 ^ 62) ≤ b) (h4 : b < 2 ^ 62) (h : QI (rng a b) [] (fun _ => True) st) : R2K [.fr (.int a), .fr (.int b)] st QI := ⟨h1, h2, h3, h4, h⟩
def EnK (ds st' : List Vl) (Q : QIt) : Prop := match ds with
  | [d] => (match pyO st' d with
    | some x => (match itemsD x with
      | some xs => Q (enumD 0 xs) [d] (fun st => pyO st d = some x) st'
      | _ => False)
    | _ => False)
  | _ => False
theorem s_enum {tr : DTA} (h : tr st fun ds st' => EnK ds st' QI) : cEnum tr st QI := h
theorem s_enumK (e1 : pyO st v = some x) (e2 : itemsD x = some xs) (h : QI (enumD 0 xs) [v] (fun st => pyO st v = some x) st) : EnK [v] st QI := by
  show (match pyO st v with
    | some x => (match itemsD x with
      | some xs => QI (enumD 0 xs) [v] (fun st => pyO st v = some x) st
      | _ => False)
    | _ => False)
  rw [e1]; dsimp only; rw [e2]; exact h
def ZpK (ds st' : List Vl) (Q : QIt) : Prop := match ds with
  | [d, d2] => (match pyO st' d, pyO st' d2 with
    | some x, some y => (match itemsD x, itemsD y with
      | some xs, some ys => Q (zip2D xs ys) [d2, d] (fun st => pyO st d = some x ∧ pyO st d2 = some y) st'
      | _, _ => False)
    | _, _ => False)
  | _ => False
theorem s_zip {tr : DTA} (h : tr st fun ds st' => ZpK ds st' QI) : cZip2 tr st QI := h
theorem s_zipK (e1 : pyO st v = some x) (e2 : pyO st w = some y) (e3 : itemsD x = some xs) (e4 : itemsD y = some ys) (h : QI (zip2D xs ys) [w, v] (fun st => pyO st v = some x ∧ pyO st w = some y) st) : ZpK [v, w] st QI := by
  show (match pyO st v, pyO st w with
    | some x, some y => (match itemsD x, itemsD y with
      | some xs, some ys => QI (zip2D xs ys) [w, v] (fun st => pyO st v = some x ∧ pyO st w = some y) st
      | _, _ => False)
    | _, _ => False)
  rw [e1, e2]; dsimp only; rw [e3, e4]; exact h
/-! loops: what is left to be told -/
def LcK (ws : List Nat) (items : List PyData) (cond : List Vl → Prop) (g : DTG) (tt : DTT) (te : DT) (st1 : List Vl) (Q : Vl → List Vl → Prop) : Prop :=
  cond (wipeD ws st1) ∧ lcGo ws cond g tt te (fun acc st' => Q (.ow acc) (rst st1 ws st')) items [] (wipeD ws st1)
theorem s_lc {lx ws : List Nat} {ti : DTI} {g : DTG} {tt : DTT} {te : DT} (h : ti st fun items src cond st1 => srcOk lx src = true ∧ frozenAt st1 ws = true ∧ LcK ws items cond g tt te st1 Q) : cLc lx ws ti g tt te st Q := h
def FoK (items : List PyData) (cond : List Vl → Prop) (g : DTG) (tb : DTS) (D : DEnds) (st1 : List Vl) : Prop := cond st1 ∧ forGo cond g tb D items st1
theorem s_for {lx : List Nat} {ti : DTI} {g : DTG} {tb : DTS} (h : ti st fun items src cond st1 => srcOk lx src = true ∧ FoK items cond g tb D st1) : cFor lx ti g tb D st := h
theorem s_lcMap {α : Type} {ws : List Nat} {items : List PyData} {cond : List Vl → Prop} {g : DTG} {tt : DTT} {te : DT} {st1 st2 st3 : List Vl} (l : List α) (enc : α → PyData) (r : α → Option PyData) (hi : items = l.map enc) (ew : wipeD ws st1 = st2) (er : rst st1 ws st2 = st3) (hc : cond st2) (hl : l.length ≤ sizeLine)
    (step : ∀ a ∈ l, ∀ K : Option PyData → List Vl → Prop, K (r a) st2 → lcTurn ws g tt te (enc a) st2 K) (q : Q (.ow (l.filterMap r)) st3) : LcK ws items cond g tt te st1 Q := by
  subst ew er
  exact ⟨hc, lc_map l enc r hi hc hl step q⟩
def RsK (st1 : List Vl) (ws : List Nat) (st : List Vl) (Q : List Vl → Prop) : Prop := Q (rst st1 ws st)
theorem s_rs {st1 : List Vl} {ws : List Nat} {QT : List Vl → Prop} (e : rst st1 ws st = st') (h : QT st') : RsK st1 ws st QT := by subst e; exact h
theorem s_lcInv {α : Type} {ws : List Nat} {items : List PyData} {cond : List Vl → Prop} {g : DTG} {tt : DTT} {te : DT} {st1 st2 : List Vl} (l : List α) (enc : α → PyData) (I : List α → List PyData → List Vl → Prop) (hi : items = l.map enc) (ew : wipeD ws st1 = st2) (hc : cond st2) (hl : l.length ≤ sizeLine) (h0 : I l [] st2)
    (step : ∀ a l' acc st, I (a :: l') acc st → ∀ K : Option PyData → List Vl → Prop, (∀ o st', I l' (acc ++ o.toList) st' → cond st' → K o st') → lcTurn ws g tt te (enc a) st K) (fin : ∀ acc st, I [] acc st → RsK st1 ws st (Q (.ow acc))) : LcK ws items cond g tt te st1 Q := by
  subst ew hi
  refine ⟨hc, ?_⟩
  have key : ∀ (l : List α) (n : Nat) (acc : List PyData) (st : List Vl), n + l.length ≤ sizeLine → acc.length ≤ n → I l acc st → lcGo ws cond g tt te (fun acc st' => Q (.ow acc) (rst st1 ws st')) (l.map enc) acc st := by
    intro l
    induction l with
    | nil => intro n acc st _ _ h; exact fin acc st h
    | cons a l ih =>
      intro n acc st hl hn h
      rw [List.length_cons] at hl
      rw [List.map_cons, lcGo]
      refine step a l acc st h (fun o st' => match o with
        | some z => acc.length < sizeLine ∧ cond st' ∧ lcGo ws cond g tt te (fun acc st' => Q (.ow acc) (rst st1 ws st')) (l.map enc) (acc ++ [z]) st'
        | none => cond st' ∧ lcGo ws cond g tt te (fun acc st' => Q (.ow acc) (rst st1 ws st')) (l.map enc) acc st') fun o st' hI hc => ?_
      cases o with
      | none => exact ⟨hc, ih n acc st' (by omega) hn (by simpa using hI)⟩
      | some z => exact ⟨by omega, hc, ih (n + 1) (acc ++ [z]) st' (by omega) (by rw [List.length_append, List.length_singleton]; omega) hI⟩
  exact key l 0 [] _ (by simpa using hl) (Nat.le_refl _) h0
theorem s_forMap {α : Type} {items : List PyData} {cond : List Vl → Prop} {g : DTG} {tb : DTS} (l : List α) (enc : α → PyData) (I : List α → List Vl → Prop) (hi : items = l.map enc) (hc : cond st) (h : I l st)
    (step : ∀ a l' st, I (a :: l') st → ∀ K : List Vl → Prop, (∀ st', I l' st' → cond st' → K st') → g (.fr (enc a)) st fun st2 => tb { D with nx := K, ct := K, bk := D.nx } st2)
    (fin : ∀ st, I [] st → D.nx st) : FoK items cond g tb D st := ⟨hc, for_map l enc I hi h step fin⟩
theorem s_yes (h : QB true st) : cYes st QB := h
def EtK (ws : List Nat) (K : Option PyData → List Vl → Prop) (y : Vl) (st4 : List Vl) : Prop := match y with
  | .fr z => K (some z) (wipeD ws st4)
  | _ => False
theorem s_turn {ws : List Nat} {g : DTG} {tt : DTT} {te : DT} {K : Option PyData → List Vl → Prop} (h : g (.fr x) st fun st2 => tt st2 fun b st3 => BR b (te st3 fun y st4 => EtK ws K y st4) (K none (wipeD ws st3))) : lcTurn ws g tt te x st K := h
theorem s_et {ws : List Nat} {K : Option PyData → List Vl → Prop} (h : K (some x) (wipeD ws st)) : EtK ws K (.fr x) st := h
theorem s_clk {lk : List Nat} {S : VSp} {ds : List Vl} (e : okB lk 0 ds = true) (h : ClK lk S ds st Q) : okB lk 0 ds = true ∧ ClK lk S ds st Q := ⟨e, h⟩
theorem s_src {lx : List Nat} {src : List Vl} {A : Prop} (e : srcOk lx src = true) (h : A) : srcOk lx src = true ∧ A := ⟨e, h⟩
theorem s_frz2 {ws : List Nat} {A : Prop} (e : frozenAt st ws = true) (h : A) : frozenAt st ws = true ∧ A := ⟨e, h⟩
theorem s_rt {A : Prop} (e : isBo d = false) (h : A) : (∀ i, d ≠ .bor i) ∧ A := ⟨nbor e, h⟩
end
end DL

/-! The plain words of the program and of the laws, and small facts that readings share. -/
namespace DL
open PySem PySem.Spec PyProof.Rows L2
def isover (xs ys : List Int) : Bool := (xs.zip ys).all fun p => decide (p.2 ≤ p.1)
def beats (xs ys : List Int) : Bool := decide (xs ≠ ys) && isover xs ys
def Pts (ps : List (List Int)) : Prop := ps.length ≤ 1000 ∧ ∀ p ∈ ps, p.length ≤ 10
theorem fmap_some {α β : Type} (f : α → β) (l : List α) : l.filterMap (fun x => some (f x)) = l.map f := by induction l <;> simp_all
theorem fmap_if {α β : Type} (c : α → Bool) (f : α → β) (l : List α) : l.filterMap (fun x => if c x = true then some (f x) else none) = (l.filter c).map f := by
  induction l with
  | nil => rfl
  | cons x l ih => cases h : c x <;> simp [h, ih]
theorem modb {x p : Int} (h : 0 < p) : 0 ≤ x % p ∧ x % p < p := ⟨Int.emod_nonneg _ (by omega), Int.emod_lt_of_pos _ h⟩
theorem rngN (n : Nat) : rng 0 (n : Int) = (List.range n).map fun (i : Nat) => .int (i : Int) := rng0 n
theorem over_empty (l : List (Int × Int)) : List.isEmpty ((l.filter fun p => decide (p.1 < p.2)).map fun _ => PyData.int 1) = l.all fun p => decide (p.2 ≤ p.1) := by
  induction l with
  | nil => rfl
  | cons p l ih =>
    rw [List.filter_cons, List.all_cons, ← ih]
    by_cases h : p.1 < p.2
    · rw [if_pos (decide_eq_true h), decide_eq_false (show ¬ p.2 ≤ p.1 by omega)]; rfl
    · rw [if_neg (by rw [decide_eq_true_eq]; exact h), decide_eq_true (show p.2 ≤ p.1 by omega), Bool.true_and]
/-- a pot from which at most n things were taken -/
def Pot (n : Nat) (l : List PyData) : Prop := ∃ a b c : Int, l = [.int a, .int b, .int c] ∧ 0 ≤ a ∧ 0 ≤ b ∧ b < 2 ^ 63 ∧ 0 ≤ c ∧ c ≤ n
theorem Pot.mono {n m : Nat} {v : List PyData} (h : Pot n v) (l : n ≤ m) : Pot m v := by
  obtain ⟨a, b, c, e, h1, h2, h3, h4, h5⟩ := h
  exact ⟨a, b, c, e, h1, h2, h3, h4, by omega⟩
end DL

/-! isinstance of a def: none of the kinds of data. The rows follow the library's own facts of other kinds. -/
namespace DL
namespace FnF
open PySem
open PySem.Sem (wp)
theorem lk_class : typeLookup (.type "function") "__class__" = pure (some (.builtin "object.__class__")) := by rw [typeLookup_type, builtinLookup_eq_fast]; kernel_rfl
theorem sub_owner : isSubtype (.type "function") (.type (".".intercalate ("object.__class__".cutAt '.').dropLast)) = pure true := by
  rw [F.owner_object_class, isSubtype_type]; kernel_rfl
theorem slot_ga : Slot "function" "__getattribute__" "object.__getattribute__" :=
  .of (owner := "object") (n := "__getattribute__") (by rw [typeLookup_type, builtinLookup_eq_fast]; kernel_rfl) (by decide +kernel) (by decide +kernel) (by decide +kernel)
    (by first | exact .inl (by decide +kernel) | exact .inr (by decide +kernel)) (by rw [isSubtype_type]; kernel_rfl)
section
variable {prog : Program} {w : World} {A : Around} {E : Value → Shared → Prop} {h : Heap} {g : Array GenState} {d : Drawn} {t : Nat} {os : OsState} {a : Addr} {o : Obj}
theorem cget {R : Result → Shared → Prop} (hx : h.get? a = some o) (hc : o.cls = .type "function") (hq : R (.ok (.ret (.type "function"))) ⟨h, g, d, t, os⟩) :
    codeAny (model prog w) A (.call (.builtin "getset_descriptor.__get__") ⟨[.builtin "object.__class__", .ref a, .type "function"], []⟩) R ⟨h, g, d, t, os⟩ := by
  have hT : (⟨h, g, d, t, os⟩ : Shared).TypeIs (.ref a) "function" := ⟨_, hx, hc⟩
  have hT5 : (⟨h, g, d, t, os⟩ : Shared).TypeIs (.builtin "object.__class__") "getset_descriptor" := F.typeOf_object_class
  have f8 := sub_owner
  refine codeAny_call_builtin F.slot_gs_get.plain F.entry_gs_get (F.slot_gs_get.check _ _ _ _ _ _ _ _ hT5 (F.args_gs_get _ _ _) ?_)
  repeat (any_goals (first | assumption | wp_step))
  refine ⟨Code.quiet_builtin _ (by decide +kernel), codeAny_builtin F.entry_object_class ?_⟩
  repeat (any_goals (first | assumption | wp_step))
theorem centry {tk : Tok} {Q : Fin → Shared → Prop} (hx : h.get? a = some o) (hc : o.cls = .type "function") (hq : Q (.done (.ret (.type "function"))) ⟨h, g, d, t, os⟩) :
    wpAny (model prog w) A (Builtin.«object.__getattribute__» ⟨[.ref a, .str "__class__" tk], []⟩) Q E ⟨h, g, d, t, os⟩ := by
  have hT : (⟨h, g, d, t, os⟩ : Shared).TypeIs (.ref a) "function" := ⟨_, hx, hc⟩
  have hT5 : (⟨h, g, d, t, os⟩ : Shared).TypeIs (.builtin "object.__class__") "getset_descriptor" := F.typeOf_object_class
  have f4 := lk_class
  have f5 := F.typeOf_object_class
  have f6 := F.slot_gs_get.lookup
  have f7 := F.slot_gs_set.lookup
  repeat (any_goals (first | assumption | wp_step))
  refine cget hx hc ?_
  repeat (any_goals (first | assumption | wp_step))
theorem ccall {tk : Tok} {R : Result → Shared → Prop} (hx : h.get? a = some o) (hc : o.cls = .type "function") (hq : R (.ok (.ret (.type "function"))) ⟨h, g, d, t, os⟩) :
    codeAny (model prog w) A (.call (.builtin "object.__getattribute__") ⟨[.ref a, .str "__class__" tk], []⟩) R ⟨h, g, d, t, os⟩ :=
  codeAny_call_builtin slot_ga.plain F.entry_object_getattribute (slot_ga.check _ _ _ _ _ _ _ _ (show (⟨h, g, d, t, os⟩ : Shared).TypeIs (.ref a) "function" from ⟨_, hx, hc⟩) (F.args_object_getattribute_2 _ _) (centry hx hc hq))
theorem cby {tk : Tok} {Q : Value → Shared → Prop} (hx : h.get? a = some o) (hc : o.cls = .type "function") (hq : Q (.type "function") ⟨h, g, d, t, os⟩) : wpAny (model prog w) A (getAttrBy (.ref a) (.str "__class__" tk) false) Q E ⟨h, g, d, t, os⟩ := by
  have hT : (⟨h, g, d, t, os⟩ : Shared).TypeIs (.ref a) "function" := ⟨_, hx, hc⟩
  have f2 := slot_ga.lookup
  have f3 := slot_ga.bind (.ref a)
  repeat (any_goals (first | assumption | wp_step))
  refine ccall hx hc ?_
  repeat (any_goals (first | assumption | wp_step))
theorem cattr {Q : Option Value → Shared → Prop} (hx : h.get? a = some o) (hc : o.cls = .type "function") (hq : Q (some (.type "function")) ⟨h, g, d, t + 1, os⟩) : wpAny (model prog w) A (getAttr? (.ref a) "__class__") Q E ⟨h, g, d, t, os⟩ := by
  unfold getAttr? getAttrBy?
  repeat (any_goals (first | assumption | with_reducible apply cby hx hc | wp_step))
theorem nested {T : String} {dep : Int} {tk : Tok} {Q : Fin → Shared → Prop} (hx : h.get? a = some o) (hc : o.cls = .type "function") (hne : (Value.type "function" == Value.type T) = false) (hty : typeOf (.type T) = pure (.type "type"))
    (hsub : isSubtype (.type "function") (.type T) = pure false) (hq : Q (.done (.ret (.bool false))) ⟨h, g, d, t + 1, os⟩) :
    wpAny (model prog w) A (Builtin.«isinstance.nested» ⟨[.ref a, .type T, .int dep tk], []⟩) Q E ⟨h, g, d, t, os⟩ := by
  have hT : (⟨h, g, d, t, os⟩ : Shared).TypeIs (.ref a) "function" := ⟨_, hx, hc⟩
  repeat (any_goals (first | assumption | with_reducible apply cattr hx hc | wp_step))
end
theorem isi_false {a : Addr} {T : String} (hne : (Value.type "function" == Value.type T) = false) (hty : typeOf (.type T) = pure (.type "type")) (hsub : isSubtype (.type "function") (.type T) = pure false) :
    Meets (Builtin.«isinstance» ⟨[.ref a, .type T], []⟩) (fun _ R s => (∃ o, s.heap.get? a = some o ∧ o.cls = .type "function") ∧ R (.ok (.ret (.bool false))) { s with toks := s.toks + 1 }) :=
  fun _ _ _ _ s hs => by
    obtain ⟨h, g, d, t, os⟩ := s
    obtain ⟨⟨o, hx, hc⟩, hq⟩ := hs
    exact isinstance_outer (nested hx hc hne hty hsub hq)
def kinds : List String := ["int", "bool", "str", "tuple", "list", "dict"]
theorem isi {prog : Program} {w : World} {A : Around} {E : Value → Shared → Prop} {s : Shared} {Q : Value → Shared → Prop} {a : Addr} {o : Obj} {T : String} (hT : T ∈ kinds) (hx : s.heap.get? a = some o) (hc : o.cls = .type "function") (h : Q (.bool false) { s with toks := s.toks + 1 }) :
    wpAny (model prog w) A (call (.builtin "isinstance") [.ref a, .type T]) Q E s := by
  simp only [kinds, List.mem_cons, List.not_mem_nil, or_false] at hT
  rcases hT with rfl | rfl | rfl | rfl | rfl | rfl
  · exact call_isinstance (isi_false (by decide +kernel) F.isi_meta_int (by rw [isSubtype_type]; kernel_rfl)) ⟨⟨o, hx, hc⟩, h⟩
  · exact call_isinstance (isi_false (by decide +kernel) F.isi_meta_bool (by rw [isSubtype_type]; kernel_rfl)) ⟨⟨o, hx, hc⟩, h⟩
  · exact call_isinstance (isi_false (by decide +kernel) F.isi_meta_str (by rw [isSubtype_type]; kernel_rfl)) ⟨⟨o, hx, hc⟩, h⟩
  · exact call_isinstance (isi_false (by decide +kernel) F.isi_meta_tuple (by rw [isSubtype_type]; kernel_rfl)) ⟨⟨o, hx, hc⟩, h⟩
  · exact call_isinstance (isi_false (by decide +kernel) F.isi_meta_list (by rw [isSubtype_type]; kernel_rfl)) ⟨⟨o, hx, hc⟩, h⟩
  · exact call_isinstance (isi_false (by decide +kernel) F.isi_meta_dict (by rw [isSubtype_type]; kernel_rfl)) ⟨⟨o, hx, hc⟩, h⟩
end FnF
end DL
/-! The data layer, part 16: what is never reached; isinstance, int(..), list(range(..)), more methods. -/
namespace DL
open PySem PySem.Spec PyProof.Rows L2
/-! ### what is never reached -/
section
variable {X : Cx} {B : Ba} {lk : List Nat} {a b e e2 : Expr} {es : List Expr} {te ta tb : DT} {t : DTA} {p pos : Pos} {s : Stmt}
/-! ### isinstance -/
def rIsD (K : PySem.W.Frag) (T : String) (f : PyData → Bool) : List V → Hp → VK → Prop := fun xs H Q => ∃ v d, xs = [v, .ty T] ∧ Dq K H v d ∧ Q (.bl (f d)) H
theorem cr_isD {T : String} {f : PyData → Bool} (rule : ∀ {prog : Program} {w : World} {A : Around} {E : Value → Shared → Prop} {s : Shared} {v : Value} {d : PyData} {as : List Addr} {Q : Value → Shared → Prop}, Reads s.heap v d as →
      nd d = true → (∀ tk, s.toks ≤ tk → Q (.bool (f d)) { s with toks := tk }) → wpAny (model prog w) A (call (.builtin "isinstance") [v, .type T]) Q E s)
    (rl : ∀ {prog : Program} {w : World} {A : Around} {E : Value → Shared → Prop} {s : Shared} {a : Addr} {o : Obj} {Q : Value → Shared → Prop}, s.heap.get? a = some o → o.cls = .type "list" → (∀ tk, Q (.bool (f (.list []))) { s with toks := tk }) → wpAny (model prog w) A (call (.builtin "isinstance") [.ref a, .type T]) Q E s)
    (rt : ∀ {prog : Program} {w : World} {A : Around} {E : Value → Shared → Prop} {s : Shared} {a : Addr} {o : Obj} {Q : Value → Shared → Prop}, s.heap.get? a = some o → o.cls = .type "tuple" → (∀ tk, Q (.bool (f (.tuple []))) { s with toks := tk }) → wpAny (model prog w) A (call (.builtin "isinstance") [.ref a, .type T]) Q E s)
    (fl : ∀ ds, f (.list ds) = f (.list []) := by intro _; rfl) (ft : ∀ ds, f (.tuple ds) = f (.tuple []) := by intro _; rfl) (hT : T ∈ FnF.kinds := by decide) (hf : ∀ x : Str, f (.dict [(.str x, .none)]) = false := by intro _; rfl) (hx : ∀ ds, f (.dict [(.none, .tuple ds)]) = f (.tuple []) := by intro _; rfl) : CallR X (.builtin "isinstance") (rIsD X.K T f) := by
  intro pins s σ H vs us Q I r ⟨v, d, e, hd, q⟩
  subst e
  obtain ⟨u, c, rfl, ru, rc⟩ := r.two
  cases rc
  have fin : nd d = true → wpAny (model X.prog X.w) X.A (call (.builtin "isinstance") [u, .type T]) (EP X pins σ Q) X.xe s := fun hn => by
    obtain ⟨as, rd⟩ := Dq.reads I d v u hn hd ru
    exact rule rd hn fun tk _ => ⟨.bl (f d), H, I.tok _, rfl, q⟩
  cases hd with
  | non => exact fin rfl
  | bl b => exact fin rfl
  | int i => exact fin rfl
  | str x => exact fin rfl
  | dct h => exact fin rfl
  | lst hs _ =>
    cases ru
    obtain ⟨its, rv, ⟨o, n, ho, hc, _⟩, _⟩ := I.list hs
    exact rl ho hc fun tk => ⟨.bl _, H, I.tok _, rfl, by rw [fl] at q; exact q⟩
  | tup hs _ =>
    cases ru
    obtain ⟨its, rv, ⟨o, ho, hc, _⟩, _⟩ := I.tuple hs
    exact rt ho hc fun tk => ⟨.bl _, H, I.tok _, rfl, by rw [ft] at q; exact q⟩
  | fnv h =>
    cases ru
    obtain ⟨o, ho, hc⟩ := h
    exact FnF.isi hT (I.kIn _ _ ho) hc ⟨.bl _, H, I.tok _, rfl, by rw [hf] at q; exact q⟩
  | xtp hs _ _ =>
    cases ru
    obtain ⟨its, rv, ⟨o, ho, hc, _⟩, _⟩ := I.tuple (.inl (.inr ⟨_, hs⟩))
    exact rt ho hc fun tk => ⟨.bl _, H, I.tok _, rfl, by rw [hx] at q; exact q⟩
def gIsD (T : String) (f : PyData → Bool) : GF := fun st ds Q => match ds with
  | [d, .cst (.ty n)] => (match pyO st d with
    | some x => n = T ∧ Q (.fr (.bool (f x)))
    | _ => False)
  | _ => False
theorem gIsD_ok {K : PySem.W.Frag} {T : String} {f : PyData → Bool} : FOk K B (gIsD T f) (rIsD K T f) := fun lv st tm σ tv H ds vs Q0 Q hl R q k => by
  unfold gIsD at q
  split at q
  · rename_i d n
    match vs, hl with
    | [v, c], _ =>
      have R' : Rel K B lv st (.cst (.ty n) :: d :: tm) σ (c :: v :: tv) H := R
      obtain rfl := R'.isCst
      split at q
      · rename_i x e
        obtain ⟨rfl, q⟩ := q
        exact ⟨v, x, rfl, R'.pop.dp e, k _ _ _ q (R'.pop.pop.bl _)⟩
      · exact q.elim
  · exact q.elim
theorem de_isD {T : String} {f : PyData → Bool} (hc : CallR X (.builtin "isinstance") (rIsD X.K T f)) (hg : Gl X "isinstance") (hm : X.mg "isinstance" = none) (ha : DA X B lk (e :: es) t) (he : starEach (e :: es) X.env = (false, eval e X.env) :: starEach es X.env := by rfl)
    (hpl : (backTo pos (starEach es X.env)).any (·.1) = false := by rfl) : DE X B lk (.Call (.Name "isinstance" p) (e :: es) [] pos) (cFn (gIsD T f) t) := de_fnB hc gIsD_ok hg hm boot_isinstance ha (he := he) (hpl := hpl)
theorem is_int : CallR X (.builtin "isinstance") (rIsD X.K "int" PyData.isInt) := cr_isD (fun r _ h => PySem.W.isinstance_int_data r h) (fun hx hc h => IsiPair.list_int hx hc (h _)) (fun hx hc h => IsiPair.tuple_int hx hc (h _))
theorem is_bool : CallR X (.builtin "isinstance") (rIsD X.K "bool" PyData.isBool) := cr_isD (fun r _ h => PySem.W.isinstance_bool_data r h) (fun hx hc h => IsiPair.list_bool hx hc (h _)) (fun hx hc h => IsiPair.tuple_bool hx hc (h _))
/-- a built-in type, by its name -/
theorem de_ty {x : Str} {T : String} (hg : Gl X x) (hm : X.mg x = none) (hv : bootBuiltins x = some (.type T)) (hn : x ≠ "__name__" := by decide) (hd : (x == ("__debug__" : Str)) = false := by decide) : DE X B lk (.Name x pos) (cK (.cst (.ty T))) := de_bltn hg hm hv rfl hn hd

/-! ### list(range(..)), tuple(range(..)) -/
def LRg (K : PySem.W.Frag) (B : Ba) (lk : List Nat) (t : List Vl → (Int → Int → List Vl → Prop) → Prop) : L2.St → Hp → (Int → Int → Hp → Prop) → Prop := fun σ H Q => ∃ lv st tm tv Q0, Lk B lv lk ∧ Rel K B lv st tm σ tv H ∧ t st Q0 ∧ ∀ i j st' H', Q0 i j st' → Rel K B lv st' tm σ tv H' → Q i j H'
abbrev DRg (X : Cx) (B : Ba) (lk : List Nat) (e : Expr) (t : List Vl → (Int → Int → List Vl → Prop) → Prop) : Prop := PRg X e (LRg X.K B lk t)
theorem PRg.weak {t t' : L2.St → Hp → (Int → Int → Hp → Prop) → Prop} (h : PRg X e t) (i : ∀ σ H Q, t' σ H Q → t σ H Q) : PRg X e t' := fun pins s σ H Q I q => h pins s σ H Q I (i σ H Q q)
def cRgA (ta : DT) : List Vl → (Int → Int → List Vl → Prop) → Prop := fun st Q => ta st fun d st1 => match d with
  | .fr (.int j) => Q 0 j st1
  | _ => False
theorem dr_1 (hg : Gl X "range") (hm : X.mg "range" = none) (ha : DE X B lk a ta) (na : starEach [a] X.env = (false, eval a X.env) :: starEach [] X.env := by rfl) : DRg X B lk (.Call (.Name "range" p) [a] [] pos) (cRgA ta) :=
  PRg.weak (prg_1 hg hm ha na) fun σ H Q ⟨lv, st, tm, tv, Q0, L, R, h, k⟩ => by
    refine ⟨lv, st, tm, tv, _, L, R, h, fun d st' v H' q R' => ?_⟩
    split at q
    · obtain rfl := R'.isInt
      exact ⟨_, rfl, k _ _ _ _ q R'.pop⟩
    · exact q.elim
theorem rgV_rp {K : PySem.W.Frag} {F : Addr → Prop} {H : Hp} (i j : Int) : RpA K F H (rgV i j) (rng i j) := by
  have e1 : rgV i j = ((List.range (j - i).toNat).map fun (k : Nat) => i + (k : Int)).map V.int := by unfold rgV; rw [List.map_map]; rfl
  have e2 : rng i j = ((List.range (j - i).toNat).map fun (k : Nat) => i + (k : Int)).map PyData.int := by unfold rng; rw [List.map_map]; rfl
  rw [e1, e2]
  exact RpA.ofInts _
def cLsR (t : List Vl → (Int → Int → List Vl → Prop) → Prop) : DT := fun st Q => t st fun i j st' => RgOk i j ∧ Q (.ow (rng i j)) st'
theorem de_listR {tr : List Vl → (Int → Int → List Vl → Prop) → Prop} (hc : X.calm = true) (hg : Gl X "list") (hm : X.mg "list" = none) (he : DRg X B lk e tr) (na : starEach [e] X.env = (false, eval e X.env) :: starEach [] X.env := by rfl) : DE X B lk (.Call (.Name "list" p) [e] [] pos) (cLsR tr) :=
  PE.weak (pe_listRg hc hg hm he na) fun σ H Q ⟨lv, st, tm, tv, Q0, L, R, h, k⟩ => ⟨lv, st, tm, tv, _, L, R, h, fun i j st' H' q R' => ⟨q.1, fun a ha => by
    obtain ⟨F, O, R2⟩ := R'
    exact k _ _ _ _ q.2 ⟨F, _, R2.newLst ha (rgV_rp i j)⟩⟩⟩
/-! ### pop, extend, clear, reverse -/
variable {o : Expr} {to : DT} {apos cpos : Pos}
/-- the items of the list that is laid behind -/
def cExt (to : DT) (t : DTA) : DT := fun st Q => to st fun d st1 => match d with
  | .bor i => (∃ xs, st1[i]? = some (.ow xs)) ∧ t st1 fun ds st2 => (match st2[i]?, ds with
    | some (.ow xs), [d2] => (match pyT st2 d2 with
      | some (.list ys) => xs.length + ys.length ≤ sizeLine ∧ Q (.fr .none) (st2.set i (.ow (xs ++ ys)))
      | _ => False)
    | _, _ => False)
  | _ => False
theorem de_extend (ho : DE X B lk o to) (ha : DA X B lk [e] t) (hbase : attributeBase o "extend" X.env (eval o X.env) = eval o X.env := by rfl)
    (hfew : ((backTo cpos (starEach [e] X.env)).all (fun x => !x.1) && (backToKw cpos (keywordEach [] X.env)).all (fun x => x.1.isSome)
      && decide ([e].length + ([] : List Keyword).length + (if ([] : List Keyword).isEmpty then 0 else 1) < 30)) = true := by rfl)
    (hline : (apos.endLine == cpos.line) = true := by rfl) (hs : starEach [e] X.env = (false, eval e X.env) :: starEach [] X.env := by rfl) (hplain : (backTo cpos (starEach [] X.env)).any (·.1) = false := by rfl) :
    DE X B lk (.Call (.Attribute o "extend" apos) [e] [] cpos) (cExt to t) :=
  PE.weak (pe_bm PySem.F.plainAttrs_list PySem.F.slot_list_extend PySem.F.type_list_extend mt_extend ho ha hbase hfew hline hs hplain) fun σ H Q ⟨lv, st, tm, tv, Q0, L, R, h, k⟩ => by
    refine ⟨lv, st, tm, tv, _, L, R, h, fun d st1 v H1 q1 R1 => ?_⟩
    split at q1
    · rename_i i
      obtain ⟨⟨xs, e1⟩, q1⟩ := q1
      refine ⟨tyL R1 e1, lv, st1, .bor i :: tm, v :: tv, _, L, R1, q1, fun ds st2 vs H2 q2 hl R2 => ?_⟩
      split at q2
      · rename_i xs d2 e2
        match vs, hl with
        | [u], _ =>
          have R3 : Rel X.K B lv st2 (d2 :: .bor i :: tm) σ (u :: v :: tv) H2 := R2
          split at q2
          · rename_i ys e3
            obtain ⟨F, O, R4⟩ := R3
            obtain ⟨b, us, rfl, hb, rb⟩ := R4.lstT e3
            obtain ⟨a, ws, rfl, ho', h1, r1, hs'⟩ := R4.pop.ofAlias e2
            refine ⟨a, b, ws, us, rfl, rfl, h1, hb, by rw [r1.length, rb.length]; exact q2.1, ?_⟩
            have R5 := (R4.pop.pop).putL ho' h1 hs' (r1.append rb)
            exact k _ _ _ _ q2.2 ⟨F, O, R5.push (d := .fr .none) .non⟩
          · exact q2.elim
      · exact q2.elim
    · exact q1.elim
end
end DL

/-! The data layer, part 17: int(..), max and min of a list, the steps of part 16. -/
namespace DL
open PySem PySem.Spec PyProof.Rows L2
section
variable {X : Cx} {B : Ba} {lk : List Nat} {a b e e2 : Expr} {es : List Expr} {te ta tb : DT} {t : DTA} {p pos : Pos}
def gInt : List Vl → Vl → (Vl → Prop) → Prop := fun st d Q => match d with
  | .fr (.int i) => Q (.fr (.int i))
  | .fr (.bool b) => Q (.fr (.int (if b then 1 else 0)))
  | .fr (.str z) => ∃ n, PySem.intText? z = some n ∧ z.length ≤ 640 ∧ Q (.fr (.int n))
  | _ => False
theorem call_int2 : CallR X (.type "int") (fun xs H Q => ((∃ i, xs = [.int i] ∧ Q (.int i) H) ∨ ∃ k, xs = [.bl k] ∧ Q (.int (if k then 1 else 0)) H) ∨ ∃ a n, xs = [.str a] ∧ PySem.intText? a = some n ∧ a.length ≤ 640 ∧ Q (.int n) H) := by
  intro pins s σ H xs us Q I r h
  rcases h with h | h
  · exact call_int1 pins s σ H xs us Q I r h
  · exact call_int_str pins s σ H xs us Q I r h
theorem gInt_ok {K : PySem.W.Frag} : F1Ok K B gInt (fun xs H Q => ((∃ i, xs = [.int i] ∧ Q (.int i) H) ∨ ∃ k, xs = [.bl k] ∧ Q (.int (if k then 1 else 0)) H) ∨ ∃ a n, xs = [.str a] ∧ PySem.intText? a = some n ∧ a.length ≤ 640 ∧ Q (.int n) H) := fun lv st tm σ tv H d v Q0 Q F O R q k => by
  unfold gInt at q
  split at q
  · rename_i i
    obtain rfl := (R.scal (x := .int i) rfl).2.2.1 i rfl
    exact .inl (.inl ⟨i, rfl, k _ _ _ q ⟨F, O, R.pop.push (d := .fr (.int _)) (.int _)⟩⟩)
  · rename_i b
    obtain rfl := (R.scal (x := .bool b) rfl).2.1 b rfl
    exact .inl (.inr ⟨b, rfl, k _ _ _ q ⟨F, O, R.pop.push (d := .fr (.int _)) (.int _)⟩⟩)
  · rename_i z
    obtain rfl := (R.scal (x := .str z) rfl).2.2.2 z rfl
    obtain ⟨n, h1, h2, q⟩ := q
    exact .inr ⟨z, n, rfl, h1, h2, k _ _ _ q ⟨F, O, R.pop.push (d := .fr (.int _)) (.int _)⟩⟩
  · exact q.elim
theorem de_intF (hg : Gl X "int") (hm : X.mg "int" = none) (ha : DA X B lk (e :: es) t) (he : starEach (e :: es) X.env = (false, eval e X.env) :: starEach es X.env := by rfl) (hpl : (backTo pos (starEach es X.env)).any (·.1) = false := by rfl) :
    DE X B lk (.Call (.Name "int" p) (e :: es) [] pos) (cFn (g1 gInt) t) := de_fnT call_int2 gInt_ok.ok hg hm boot_int ha (he := he) (hpl := hpl)
end
/-! ### steps -/
section
variable {st st' : List Vl} {Q : Vl → List Vl → Prop} {QF : Vl → Prop} {i j : Nat} {m n : Int} {x y : PyData} {xs ys : List PyData} {ta tb : DT} {v w : Vl}
theorem s_isD {T : String} {f : PyData → Bool} (e1 : pyO st v = some x) (h : QF (.fr (.bool (f x)))) : gIsD T f st [v, .cst (.ty T)] QF := by
  show (match pyO st v with
    | some x => T = T ∧ QF (.fr (.bool (f x)))
    | _ => False)
  rw [e1]; exact ⟨rfl, h⟩
theorem s_intB {b : Bool} (h : QF (.fr (.int (if b then 1 else 0)))) : gInt st (.fr (.bool b)) QF := h
abbrev QR := Int → Int → List Vl → Prop
variable {R : QR}
def RaK (d : Vl) (st1 : List Vl) (Q : QR) : Prop := match d with
  | .fr (.int j) => Q 0 j st1
  | _ => False
theorem s_rgA (h : ta st fun d st1 => RaK d st1 R) : cRgA ta st R := h
theorem s_raK (h : R 0 m st) : RaK (.fr (.int m)) st R := h
theorem s_lsR {t : List Vl → QR → Prop} (h : t st fun i j st' => RgOk i j ∧ Q (.ow (rng i j)) st') : cLsR t st Q := h
theorem s_rgk {A : Prop} (h : RgOk m n) (a : A) : RgOk m n ∧ A := ⟨h, a⟩
def E1K (t : DTA) (d : Vl) (st1 : List Vl) (Q : Vl → List Vl → Prop) : Prop := match d with
  | .bor i => (∃ xs, st1[i]? = some (.ow xs)) ∧ t st1 fun ds st2 => (match st2[i]?, ds with
    | some (.ow xs), [d2] => (match pyT st2 d2 with
      | some (.list ys) => xs.length + ys.length ≤ sizeLine ∧ Q (.fr .none) (st2.set i (.ow (xs ++ ys)))
      | _ => False)
    | _, _ => False)
  | _ => False
def E2K (i : Nat) (ds st2 : List Vl) (Q : Vl → List Vl → Prop) : Prop := match st2[i]?, ds with
  | some (.ow xs), [d2] => (match pyT st2 d2 with
    | some (.list ys) => xs.length + ys.length ≤ sizeLine ∧ StK i (xs ++ ys) st2 (Q (.fr .none))
    | _ => False)
  | _, _ => False
theorem s_ext {t : DTA} (h : ta st fun d st1 => E1K t d st1 Q) : cExt ta t st Q := h
theorem s_ext1 {t : DTA} (e : st[i]? = some (.ow xs)) (h : t st fun ds st2 => E2K i ds st2 Q) : E1K t (.bor i) st Q := ⟨⟨xs, e⟩, h⟩
theorem s_ext2 (e : st[i]? = some (.ow xs)) (e2 : pyT st v = some (.list ys)) (hz : xs.length + ys.length ≤ sizeLine) (h : StK i (xs ++ ys) st (Q (.fr .none))) : E2K i [v] st Q := by
  unfold E2K
  rw [e]
  show (match pyT st v with
    | some (.list ys) => xs.length + ys.length ≤ sizeLine ∧ StK i (xs ++ ys) st (Q (.fr .none))
    | _ => False)
  rw [e2]
  exact ⟨hz, h⟩
end
end DL

/-! More plain words. -/
namespace DL
open PySem PySem.Spec PyProof.Rows L2
def withinD (x : PyData) (lo hi : Int) : Bool := match x with
  | .int i => decide (lo ≤ i) && decide (i ≤ hi)
  | _ => false
def rowOk (ps : List (List Int)) (row : List Int) : Bool := (row.all fun x => withinD (.int x) 0 ((ps.length : Int) - 1)) && (row.zip (row.drop 1)).all fun p => beats (ps.getD p.1.toNat []) (ps.getD p.2.toNat [])
theorem Pts.at_ {ps : List (List Int)} {i : Nat} (h : Pts ps) (hi : i < ps.length) : (ps.getD i []).length ≤ 10 := by
  rw [List.getD_eq_getElem?_getD, List.getElem?_eq_getElem hi]
  exact h.2 _ (List.getElem_mem hi)
theorem isover_cons (x y : Int) (xs ys : List Int) : isover (x :: xs) (y :: ys) = (decide (y ≤ x) && isover xs ys) := rfl
theorem beats_irr (xs : List Int) : beats xs xs = false := by simp [beats]
section
variable {st : List Vl} {Q : Vl → List Vl → Prop} {v : Vl} {a : Int} {xs : List PyData}
theorem s_ixD {f : PyData → Prop} (e1 : pyO st v = some (.list xs)) (e2 : ∃ p, atI xs a = some p ∧ f p) (h : ∀ p, f p → Q (.fr p) st) : gIx st v (.fr (.int a)) Q := by
  obtain ⟨p, e, hp⟩ := e2
  exact s_ixL e1 e (h p hp)
theorem atI_allD {P : PyData → Prop} {xs : List PyData} {i : Int} (h0 : 0 ≤ i) (h : i < xs.length) (hp : ∀ d ∈ xs, P d) : ∃ p, atI xs i = some p ∧ P p := by
  rw [atI_int h0 h]
  have hl : i.toNat < xs.length := by omega
  exact ⟨_, List.getElem?_eq_getElem hl, hp _ (List.getElem_mem hl)⟩
end
end DL

/-! is True, is not True of a truth. -/
namespace DL
open PySem PySem.Spec PyProof.Rows L2
section
variable {X : Cx} {B : Ba} {K : PySem.W.Frag} {lk : List Nat} {a b : Expr} {ta tb : DT} {pos : Pos}
end
end DL

/-! Layers: how many the longest row of beating has ahead of a number; peeled fronts. Plain words. -/
namespace DL
open PySem PySem.Spec PyProof.Rows L2
def bt (ps : List (List Int)) (j i : Nat) : Bool := beats (ps.getD j []) (ps.getD i [])
def sup (P : Nat → Bool) (g : Nat → Nat) : List Nat → Nat
  | [] => 0
  | x :: l => if P x = true then max (g x) (sup P g l) else sup P g l
section
variable {P P' : Nat → Bool} {g g' : Nat → Nat}
end
def layF (ps : List (List Int)) : Nat → Nat → Nat
  | 0, _ => 0
  | f + 1, i => sup (fun j => bt ps j i) (fun j => layF ps f j + 1) (List.range ps.length)
def lay (ps : List (List Int)) (i : Nat) : Nat := layF ps ps.length i
theorem getD_mem {ps : List (List Int)} {i : Nat} (h : i < ps.length) : ps.getD i [] ∈ ps := by
  rw [List.getD_eq_getElem?_getD, List.getElem?_eq_getElem h]
  exact List.getElem_mem h
section
variable {ps : List (List Int)}
/-- what is left behind k times -/
def left (ps : List (List Int)) (k : Nat) : List Nat := (List.range ps.length).filter fun i => decide (k ≤ lay ps i)
/-- how many fronts there are -/
def fronts (ps : List (List Int)) : Nat := sup (fun _ => true) (fun i => lay ps i + 1) (List.range ps.length)
end
end DL

/-! sum of a list or a tuple. -/
namespace DL
open PySem PySem.Spec PyProof.Rows L2
section
variable {X : Cx} {B : Ba} {K : PySem.W.Frag} {lk : List Nat} {e : Expr} {es : List Expr} {t : DTA} {p pos : Pos}
end
section
variable {st : List Vl} {v : Vl} {xs : List PyData} {QF : Vl → Prop}
end
end DL

/-! Numbers by the sums of their points; lists of numbers told by a word. -/
namespace DL
open PySem PySem.Spec PyProof.Rows L2
theorem ptsAt {ps : List (List Int)} {i : Nat} (h : i < ps.length) : atI (ps.map pt) (i : Int) = some (pt (ps.getD i [])) := by
  apply atI_ok
  rw [List.getElem?_map, List.getD_eq_getElem?_getD, List.getElem?_eq_getElem h]
  rfl
end DL

/-! A list times a number. -/
namespace DL
open PySem PySem.Spec PyProof.Rows L2
section
variable {X : Cx} {B : Ba} {K : PySem.W.Frag} {lk : List Nat} {a b : Expr} {ta tb : DT} {pos : Pos}
theorem RpA.rep {F : Addr → Prop} {H : Hp} {vs : List V} {ds : List PyData} (r : RpA K F H vs ds) : ∀ k : Nat, RpA K F H (List.replicate k vs).flatten (List.replicate k ds).flatten
  | 0 => .nil
  | k + 1 => by
    rw [List.replicate_succ, List.replicate_succ, List.flatten_cons, List.flatten_cons]
    exact r.append (RpA.rep r k)
end
section
variable {st : List Vl} {v w : Vl} {xs : List PyData} {Q : Vl → List Vl → Prop} {k : Int}
theorem flat_one {α : Type} (d : α) : ∀ n : Nat, (List.replicate n [d]).flatten = List.replicate n d
  | 0 => rfl
  | n + 1 => by rw [List.replicate_succ, List.flatten_cons, flat_one d n]; rfl
end
end DL

/-! Small things: ranges with their numbers, any of a made list. -/
namespace DL
open PySem PySem.Spec PyProof.Rows L2
theorem any_of {α : Type} (f : α → Bool) (l : List α) : (l.map f).any id = l.any f := by
  rw [List.any_map]; rfl
theorem all_of {α : Type} (f : α → Bool) (l : List α) : (l.map f).all id = l.all f := by
  rw [List.all_map]; rfl
end DL

/-! Layers with ups. -/
namespace DL
open PySem PySem.Spec PyProof.Rows L2
theorem dep_mapI {α : Type} (f : α → Int) (l : List α) : dep 60 (.list (l.map fun x => PyData.int (f x))) = true := by
  simp only [dep]
  rw [List.all_map]
  exact List.all_eq_true.mpr fun x _ => rfl
theorem intsAt {xs : List Int} {i : Nat} (h : i < xs.length) : atI (xs.map PyData.int) (i : Int) = some (.int (xs.getD i 0)) := by
  apply atI_ok
  rw [List.getElem?_map, List.getD_eq_getElem?_getD, List.getElem?_eq_getElem h]
  rfl
def fallN (ps : List (List Int)) (some : List Int) (i : Nat) : Bool := (List.range ps.length).all fun j => !(bt ps j i && decide (some.getD i 0 ≤ some.getD j 0))
def falls (ps : List (List Int)) (some : List Int) : Bool := (List.range ps.length).all fun i => fallN ps some i
end DL

/-! What is plain about kinds of data. -/
namespace DL
open PySem PySem.Spec PyProof.Rows L2
theorem kd_isBool_bool (x) : (PyData.bool x).isBool = true := rfl
end DL

/-! Guards. -/
namespace DL
open PySem PySem.Spec PyProof.Rows L2
section
variable {ps : List (List Int)}
end
end DL

/-! A tuple times a number, nought and one among them; parts of tuples. -/
namespace DL
open PySem PySem.Spec PyProof.Rows L2
theorem tuple_mulW1 (l : Addr) (items : Array Value) (n : Nat) (dd : Option Addr) (sl : Array (Option Value)) (u : Tok) :
    Meets (Builtin.«tuple.__mul__» ⟨[.ref l, .int 1 u], []⟩) (fun _ R s => s.heap.get? l = some { cls := .type "tuple", dict := dd, data := .seq items n, slots := sl } ∧ R (.ok (.ret (Value.ref l))) s) :=
  .of_wp fun prog w A R s h => by
    obtain ⟨hp, g, d, tk, os⟩ := s
    obtain ⟨hl, h⟩ := h
    have f1 := AutoSeq1.idx_int
    wp_walk using wpAny_loadPart' hl
    exact ⟨_, rfl, h⟩
theorem tuple_mulW0 (l : Addr) (items : Array Value) (n : Nat) (dd : Option Addr) (sl : Array (Option Value)) (u : Tok) (hi : items.isEmpty = false) :
    Meets (Builtin.«tuple.__mul__» ⟨[.ref l, .int 0 u], []⟩) (fun _ R s => s.heap.get? l = some { cls := .type "tuple", dict := dd, data := .seq items n, slots := sl } ∧
      R (.ok (.ret (Value.ref s.heap.objs.size))) { s with heap := s.heap.push { cls := Value.type "tuple", data := Data.seq #[] }, toks := s.toks }) :=
  .of_wp fun prog w A R s h => by
    obtain ⟨hp, g, d, tk, os⟩ := s
    obtain ⟨hl, h⟩ := h
    have f1 := AutoSeq1.idx_int
    wp_walk using wpAny_loadPart' hl
    exact ⟨_, rfl, h⟩
def rRepT1 (K : PySem.W.Frag) : R2 := fun x y H Q => ∃ l xs, x = .ref l ∧ y = .int 1 ∧ SqT K H l xs ∧ Q (.ref l) H
def rRepT0 (K : PySem.W.Frag) : R2 := fun x y H Q => ∃ l xs, x = .ref l ∧ y = .int 0 ∧ SqT K H l xs ∧ xs ≠ [] ∧ ∀ p, H p = none → Q (.ref p) (upd H p (.tup []))
section
variable {X : Cx}
theorem op_repT1 : OpR X (binaryOp .Mult) (rRepT1 X.K) := by
  intro pins s σ H x y v u Q I rx ry h
  obtain ⟨l, xs, rfl, rfl, hT, q⟩ := h
  cases rx
  obtain ⟨t, rfl⟩ := ry
  obtain ⟨its, r, ⟨⟨cls, dd, data, sl⟩, ho, hc, n, hd⟩, hs⟩ := I.tuple hT
  simp only at hc hd
  subst hc hd
  refine wpAny_binaryOp_repeat_ref (T := "tuple") (U := "int") (by decide) ⟨_, ho, rfl⟩ (fun s' => typeIs_int s' 1 t) noFill_tuple_mul F.fills_int_mul F.slot_int_rmul repeat_tuple F.slot_int_index.lookup
    (call_meets F.slot_int_rmul (typeIs_int s 1 t) F.entry_int_rmul (F.args_int_rmul_2 _ _) (int_rmul_tuple 1 t l its.toArray n dd sl)
      ⟨ho, rfl, ⟨_, ho, rfl⟩, call_meets F.slot_tuple_mul ⟨_, ho, rfl⟩ F.entry_tuple_mul (F.args_tuple_mul_2 _ _) (tuple_mulW1 l its.toArray n dd sl t) ⟨ho, ?_⟩⟩)
  exact ⟨.ref l, _, I, rfl, q⟩
theorem op_repT0 : OpR X (binaryOp .Mult) (rRepT0 X.K) := by
  intro pins s σ H x y v u Q I rx ry h
  obtain ⟨l, xs, rfl, rfl, hT, hne, q⟩ := h
  cases rx
  obtain ⟨t, rfl⟩ := ry
  obtain ⟨its, r, ⟨⟨cls, dd, data, sl⟩, ho, hc, n, hd⟩, hs⟩ := I.tuple hT
  simp only at hc hd
  subst hc hd
  have hle : its.length = xs.length := r.length.symm
  have hn : its ≠ [] := fun e => hne (by
    rw [e] at hle
    exact List.eq_nil_of_length_eq_zero hle.symm)
  have hi : its.toArray.isEmpty = false := by
    cases its with
    | nil => exact absurd rfl hn
    | cons a b => rfl
  refine wpAny_binaryOp_repeat_ref (T := "tuple") (U := "int") (by decide) ⟨_, ho, rfl⟩ (fun s' => typeIs_int s' 0 t) noFill_tuple_mul F.fills_int_mul F.slot_int_rmul repeat_tuple F.slot_int_index.lookup
    (call_meets F.slot_int_rmul (typeIs_int s 0 t) F.entry_int_rmul (F.args_int_rmul_2 _ _) (int_rmul_tuple 0 t l its.toArray n dd sl)
      ⟨ho, rfl, ⟨_, ho, rfl⟩, call_meets F.slot_tuple_mul ⟨_, ho, rfl⟩ F.entry_tuple_mul (F.args_tuple_mul_2 _ _) (tuple_mulW0 l its.toArray n dd sl t hi) ⟨ho, ?_⟩⟩)
  refine ⟨.ref s.heap.objs.size, _, I.laid (t' := s.toks) (o := .tup []) (fun b ob q => Heap.get?_push_of_some _ q) (Nat.le_refl _) ?_, rfl, q _ (I.hok.fresh (Nat.le_refl _))⟩
  exact ⟨Nat.zero_le _, [], .nil, IsTup.new _ _⟩
def rRepA (K : PySem.W.Frag) : R2 := fun x y H Q => rRep x y H Q ∨ rRepT1 K x y H Q ∨ rRepT0 K x y H Q ∨ rRepT K x y H Q
theorem op_repA : OpR X (binaryOp .Mult) (rRepA X.K) := by
  intro pins s σ H x y v u Q I rx ry h
  rcases h with h | h | h | h
  · exact op_rep pins s σ H x y v u Q I rx ry h
  · exact op_repT1 pins s σ H x y v u Q I rx ry h
  · exact op_repT0 pins s σ H x y v u Q I rx ry h
  · exact op_repT pins s σ H x y v u Q I rx ry h
end
section
variable {X : Cx} {B : Ba} {K : PySem.W.Frag} {lk : List Nat} {a b : Expr} {ta tb : DT} {pos : Pos}
def gRepA : DOp := fun st x y Q => match pyT st x, pyT st y with
  | some (.list xs), some (.int k) => -(2 ^ 63) ≤ k ∧ k < 2 ^ 63 ∧ xs.length * k.toNat ≤ sizeLine ∧ Q (.ow (List.replicate k.toNat xs).flatten) st
  | some (.tuple xs), some (.int k) => 0 ≤ k ∧ k ≤ 1000 ∧ xs ≠ [] ∧ xs.length ≤ 1000 ∧ Q (.fr (.tuple (List.replicate k.toNat xs).flatten)) st
  | _, _ => False
theorem gRepA_ok : DOk K B gRepA (rRepA K) := by
  intro lv st tm σ tv H x y u v Q0 Q R h k
  unfold gRepA at h
  split at h
  · rename_i xs j e1 e2
    obtain rfl := pyT_int R e2
    obtain ⟨F, O, R⟩ := R
    obtain ⟨b, ws, rfl, h2, r2⟩ := R.pop.lstT e1
    exact .inl ⟨b, j, ws, rfl, rfl, h2, h.1, h.2.1, by rw [r2.length]; exact h.2.2.1, fun p hp => k _ _ _ _ h.2.2.2 ⟨F, _, R.pop.pop.newLst hp (r2.rep _)⟩⟩
  · rename_i xs j e1 e2
    obtain rfl := pyT_int R e2
    obtain ⟨F, O, R⟩ := R
    obtain ⟨b, ws, rfl, h2, r2⟩ := R.pop.tup (pyO_of_pyT e1)
    obtain ⟨c1, c2, c3, c4, h⟩ := h
    have hw : ws ≠ [] := fun e => c3 (by subst e; cases r2; rfl)
    by_cases j0 : j = 0
    · subst j0
      exact .inr (.inr (.inl ⟨b, ws, rfl, rfl, h2, hw, fun p hp => k _ _ _ _ h ⟨F, _, R.pop.pop.newTup hp (r2.rep 0)⟩⟩))
    · by_cases j1 : j = 1
      · subst j1
        have e : (List.replicate (1 : Int).toNat xs).flatten = xs := by simp
        rw [e] at h
        exact .inr (.inl ⟨b, ws, rfl, rfl, h2, k _ _ _ _ h ⟨F, O, R.pop.pop.push (d := .fr (.tuple xs)) (Rp.tup h2 r2)⟩⟩)
      · exact .inr (.inr (.inr ⟨b, j, ws, rfl, rfl, h2, hw, by omega, c2, by rw [r2.length]; exact c4, fun p hp => k _ _ _ _ h ⟨F, _, R.pop.pop.newTup hp (r2.rep _)⟩⟩))
  · exact h.elim
theorem de_repA (ha : DE X B lk a ta) (hb : DE X B lk b tb) : DE X B lk (.BinOp a .Mult b pos) (c2 gRepA ta tb) := de_op op_repA gRepA_ok ha hb
end
section
variable {st : List Vl} {v w : Vl} {xs : List PyData} {Q : Vl → List Vl → Prop} {k : Int}
theorem s_repL (e1 : pyT st v = some (.list xs)) (e2 : pyT st w = some (.int k)) (h1 : -(2 ^ 63) ≤ k) (h2 : k < 2 ^ 63) (h3 : xs.length * k.toNat ≤ sizeLine) (h : Q (.ow (List.replicate k.toNat xs).flatten) st) : gRepA st v w Q := by unfold gRepA; rw [e1, e2]; exact ⟨h1, h2, h3, h⟩
theorem s_repT (e1 : pyT st v = some (.tuple xs)) (e2 : pyT st w = some (.int k)) (h1 : 0 ≤ k) (h2 : k ≤ 1000) (h3 : xs ≠ []) (h4 : xs.length ≤ 1000) (h : Q (.fr (.tuple (List.replicate k.toNat xs).flatten)) st) : gRepA st v w Q := by unfold gRepA; rw [e1, e2]; exact ⟨h1, h2, h3, h4, h⟩
theorem s_repL1 {d : PyData} {n : Nat} (hn : n ≤ 100000) (h : Q (.ow (List.replicate n d)) st) : gRepA st (.ow [d]) (.fr (.int (n : Nat))) Q := by
  refine s_repL (xs := [d]) rfl rfl (by omega) (by omega) ?_ ?_
  · rw [List.length_singleton, Nat.one_mul, Int.toNat_natCast]
    exact small (k := 100000) hn
  · rw [Int.toNat_natCast, flat_one]
    exact h
theorem s_repT1 {d : PyData} {n : Nat} (hn : n ≤ 1000) (h : Q (.fr (.tuple (List.replicate n d))) st) : gRepA st (.fr (.tuple [d])) (.fr (.int (n : Nat))) Q := by
  refine s_repT (xs := [d]) rfl rfl (by omega) (by omega) (by simp) (by simp) ?_
  rw [Int.toNat_natCast, flat_one]
  exact h
end
/-! parts of a made list -/
def cutG {α : Type} (l : List α) (lo hi : Option Int) : List α := (l.drop (HT.sIx l.length 0 lo)).take (HT.sIx l.length l.length hi - HT.sIx l.length 0 lo)
theorem cut_map {α : Type} (f : α → PyData) (l : List α) (lo hi : Option Int) : cut (l.map f) lo hi = (cutG l lo hi).map f := by
  unfold cut cutG
  rw [List.length_map, List.map_take, List.map_drop]
theorem cutG_len {α : Type} (l : List α) (lo hi : Option Int) : (cutG l lo hi).length ≤ l.length := by
  unfold cutG
  rw [List.length_take, List.length_drop]
  omega
/-- a list of whole numbers, at most so long -/
def IL (n : Nat) (xs : List PyData) : Prop := ∃ so : List Int, xs = so.map .int ∧ so.length ≤ n
theorem IL.app {a b : Nat} {xs ys : List PyData} (h : IL a xs) (k : IL b ys) : IL (a + b) (xs ++ ys) := by
  obtain ⟨m, rfl, h⟩ := h
  obtain ⟨o, rfl, k⟩ := k
  exact ⟨m ++ o, by rw [List.map_append], by rw [List.length_append]; omega⟩
theorem IL.cut {a : Nat} {xs : List PyData} (h : IL a xs) (lo hi : Option Int) : IL a (DL.cut xs lo hi) := by
  obtain ⟨m, rfl, h⟩ := h
  exact ⟨cutG m lo hi, cut_map PyData.int m lo hi, Nat.le_trans (cutG_len _ _ _) h⟩
theorem IL.rev {a : Nat} {xs : List PyData} (h : IL a xs) : IL a xs.reverse := by
  obtain ⟨m, rfl, h⟩ := h
  exact ⟨m.reverse, by rw [List.map_reverse], by rw [List.length_reverse]; exact h⟩
theorem IL.one (o : Int) : IL 1 [.int o] := ⟨[o], rfl, Nat.le_refl _⟩
theorem IL.mono {a b : Nat} {xs : List PyData} (h : IL a xs) (k : a ≤ b) : IL b xs := by
  obtain ⟨m, e, h⟩ := h
  exact ⟨m, e, Nat.le_trans h k⟩
theorem IL.len {a : Nat} {xs : List PyData} (h : IL a xs) : xs.length ≤ a := by
  obtain ⟨m, rfl, h⟩ := h
  rw [List.length_map]; exact h
theorem IL.of {so : List Int} {n : Nat} (h : so.length ≤ n) : IL n (so.map .int) := ⟨so, rfl, h⟩
theorem iset (so : List Int) (i : Nat) (o : Int) : (so.map PyData.int).set i (.int o) = (so.set i o).map .int := List.map_set.symm
end DL

/-! Spans: the nearest place ahead and behind whose point beats a place's own. -/
namespace DL
open PySem PySem.Spec PyProof.Rows L2
theorem rng_from (a d : Nat) : rng (a : Int) ((a + d : Nat) : Int) = (List.range' a d).map fun (i : Nat) => .int (i : Int) := by
  unfold rng
  rw [show (((a + d : Nat) : Int) - (a : Int)).toNat = d by omega, List.range'_eq_map_range, List.map_map]
  congr 1
section
variable (ps : List (List Int)) (i : Nat)
end
end DL

/-! The greatest and the least of what a span is taken of. -/
namespace DL
open PySem PySem.Spec PyProof.Rows L2
end DL

/-! Lists of things that a word makes, at most so long. -/
namespace DL
open PySem PySem.Spec PyProof.Rows L2
section
variable {α : Type} {f : α → PyData} {a b : Nat} {xs ys : List PyData}
end
end DL

/-! On how many windows' fronts a place is: the counting. -/
namespace DL
open PySem PySem.Spec PyProof.Rows L2
section
variable (ps : List (List Int))
variable {ps}
end
end DL

/-! max with a default, max of a tuple. -/
namespace DL
open PySem PySem.Spec PyProof.Rows L2
section
variable {prog : Program} {w : World} {A : Around} {E : Value → Shared → Prop} {s : Shared} {a : Addr} {its : List Value} {ns : List Int} {Q : Value → Shared → Prop}
theorem cmpIn_ints (H : Heap) (xs : Array (Int × Tok)) : CmpIn prog w A .Gt H (fun i v => (intItems xs)[i]? = some v) (fun i j => decide (numAt xs i > numAt xs j)) := fun i j vi vj s' Q E _ hi hj hq => by
  exact CmpOf.ints_gt (numAt xs) (fun _ _ => intItems_at) i j vi vj s' Q E hi hj hq
theorem maxD_raw {d : Value} (hh : A.handled = none) (hl : s.heap.IsList a its.toArray) (hi : IntsAre its ns)
    (h0 : ns = [] → ∀ h' tk, (∀ b o, s.heap.get? b = some o → h'.get? b = some o) → Q d { s with heap := h', toks := tk })
    (h : ∀ h' tk M t', (∀ b o, s.heap.get? b = some o → h'.get? b = some o) → M ∈ ns → (∀ a, a ∈ ns → a ≤ M) → Q (.int M t') { s with heap := h', toks := tk }) : wpAny (model prog w) A (call (.builtin "max") [.ref a] [(Str.ofString "default", d)]) Q E s := by
  obtain ⟨xs, e⟩ := hi.allInts.items
  have hn : numsOf (intItems xs).toList = ns := by rw [← e]; exact hi.numsOf
  rw [nums_intItems] at hn
  subst hn
  rw [e] at hl
  have hsz : (intItems xs).size = xs.size := by simp [intItems]
  refine call_max_walkD (PySem.W.iter_listW (A := A.in1) hh hl fun s₂ e W st hfp hw hk => ?_)
  refine ⟨_, _, _, _, _, _, _, s.heap, _, rfl, W, st, hfp, hw, hk, fun hz s' m => ?_, fun hp => ⟨cmpIn_ints s.heap xs, fun v s' hP m => ?_⟩⟩
  · obtain ⟨h', tk, rfl, hk'⟩ := PySem.W.moved_old e rfl m
    refine h0 ?_ h' tk hk'
    rw [hsz] at hz
    exact List.eq_nil_of_length_eq_zero (by rw [List.length_map, Array.length_toList]; exact hz)
  · obtain ⟨h', tk, rfl, hk'⟩ := PySem.W.moved_old e rfl m
    rw [hsz] at hP hp
    obtain ⟨t, rfl⟩ := intItems_at hP
    obtain ⟨h1, h2⟩ := argBest_gt (numAt xs) (xs.size - 1)
    refine h h' tk _ t hk' ?_ fun a ha => ?_
    · rw [numAt_eq]; exact PySem.getD_mem (by rw [List.length_map, Array.length_toList]; omega)
    · obtain ⟨j, hj, rfl⟩ := mem_getD ha
      rw [List.length_map, Array.length_toList] at hj
      rw [← numAt_eq]; exact h2 j (by omega)
theorem maxT_raw (hh : A.handled = none) (hl : s.heap.IsTuple a its.toArray) (hi : IntsAre its ns) (hne : 0 < ns.length)
    (h : ∀ h' tk M t', (∀ b o, s.heap.get? b = some o → h'.get? b = some o) → M ∈ ns → (∀ a, a ∈ ns → a ≤ M) → Q (.int M t') { s with heap := h', toks := tk }) : wpAny (model prog w) A (call (.builtin "max") [.ref a]) Q E s := by
  obtain ⟨xs, e⟩ := hi.allInts.items
  have hn : numsOf (intItems xs).toList = ns := by rw [← e]; exact hi.numsOf
  rw [nums_intItems] at hn
  subst hn
  rw [e] at hl
  have hsz : (intItems xs).size = xs.size := by simp [intItems]
  have hne : 0 < xs.size := by simpa using hne
  refine call_max_walkH (PySem.W.iter_tupleW (A := A.in1) hh hl fun s₂ e W st hfp hw hk => ?_)
  refine ⟨_, _, _, _, _, _, _, s.heap, _, rfl, W, st, hfp, by rw [hsz]; exact hne, hw, hk, cmpIn_ints s.heap xs, fun v s' hP m => ?_⟩
  obtain ⟨h', tk, rfl, hk'⟩ := PySem.W.moved_old e rfl m
  rw [hsz] at hP
  obtain ⟨t, rfl⟩ := intItems_at hP
  obtain ⟨h1, h2⟩ := argBest_gt (numAt xs) (xs.size - 1)
  refine h h' tk _ t hk' ?_ fun a ha => ?_
  · rw [numAt_eq]; exact PySem.getD_mem (by rw [List.length_map, Array.length_toList]; omega)
  · obtain ⟨j, hj, rfl⟩ := mem_getD ha
    rw [List.length_map, Array.length_toList] at hj
    rw [← numAt_eq]; exact h2 j (by omega)
end
section
variable {X : Cx} {B : Ba} {K : PySem.W.Frag} {lk : List Nat} {e d : Expr} {es : List Expr} {t : DTA} {ta td : DT} {p pos kpos : Pos}
def rMaxA (K : PySem.W.Frag) : List V → Hp → VK → Prop := fun vs H Q => ∃ (a : Addr) (ns : List Int), vs = [V.ref a] ∧ (SqL K H a (ns.map V.int) ∨ SqT K H a (ns.map V.int)) ∧ 0 < ns.length ∧ ∀ m, m ∈ ns → (∀ y, y ∈ ns → y ≤ m) → Q (.int m) H
theorem cr_maxA (hc : X.calm = true) : CallR X (.builtin "max") (rMaxA X.K) := by
  intro pins s σ H vs us Q I r h
  obtain ⟨a, ns, rfl, hs, hne, q⟩ := h
  rcases hs with hs | hs
  · exact cr_max hc pins s σ H _ us Q I r ⟨a, ns, rfl, hs, hne, q⟩
  · rw [Vals.ref1 r]
    obtain ⟨its, rv, hl, _⟩ := I.tuple hs
    exact maxT_raw (I.ok.hd hc) hl rv.ints hne fun h' tk m t' hk h1 h2 => ⟨.int _, H, I.kept hk, ⟨_, rfl⟩, q m h1 h2⟩
def gMaxA : List Vl → Vl → (Vl → Prop) → Prop := fun st d Q => ∃ ns : List Int, (pyO st d = some (.list (ns.map .int)) ∨ pyO st d = some (.tuple (ns.map .int))) ∧ 0 < ns.length ∧ ∀ m, m ∈ ns → (∀ y, y ∈ ns → y ≤ m) → Q (.fr (.int m))
theorem gMaxA_ok : F1Ok K B gMaxA (rMaxA K) := fun lv st tm σ tv H d v Q0 Q F O R q k => by
  obtain ⟨ns, e, h0, q⟩ := q
  rcases e with e | e
  · obtain ⟨a, vs, rfl, h, r⟩ := R.lst e
    obtain rfl := r.ints
    exact ⟨a, ns, rfl, .inl h, h0, fun m h1 h2 => k _ _ _ (q m h1 h2) ⟨F, O, R.pop.push (d := .fr (.int _)) (.int _)⟩⟩
  · obtain ⟨a, vs, rfl, h, r⟩ := R.tup e
    obtain rfl := r.ints
    exact ⟨a, ns, rfl, .inr h, h0, fun m h1 h2 => k _ _ _ (q m h1 h2) ⟨F, O, R.pop.push (d := .fr (.int _)) (.int _)⟩⟩
theorem de_maxA (hc : X.calm = true) (hg : Gl X "max") (hm : X.mg "max" = none) (ha : DA X B lk (e :: es) t) (he : starEach (e :: es) X.env = (false, eval e X.env) :: starEach es X.env := by rfl) (hpl : (backTo pos (starEach es X.env)).any (·.1) = false := by rfl) :
    DE X B lk (.Call (.Name "max" p) (e :: es) [] pos) (cFn (g1 gMaxA) t) := de_fnB (cr_maxA hc) gMaxA_ok.ok hg hm boot_max ha (he := he) (hpl := hpl)
end
section
variable {st : List Vl} {Q : Vl → List Vl → Prop} {ta td : DT}
end
end DL

/-! Sums by leans, the greatest of them. -/
namespace DL
open PySem PySem.Spec PyProof.Rows L2
end DL

/-! list.index of whole numbers, list.reverse. -/
namespace DL
open PySem PySem.Spec PyProof.Rows L2
section
variable {X : Cx} {B : Ba} {lk : List Nat} {o e : Expr} {to te : DT} {apos cpos : Pos}
end
section
variable {st : List Vl} {Q : Vl → List Vl → Prop} {to te : DT} {d : Vl} {xs : List PyData} {k : Int}
end
/-! the longest row -/
end DL

/-! Exceptions: what a def may let out, a call that may raise, raise. -/
namespace DL
open PySem PySem.Spec PyProof.Rows L2
section
variable {X : Cx} {B : Ba} {lk lk' : List Nat} {e : Expr} {es : List Expr} {t : DTA} {p pos : Pos} {x : Str} {j k n : Nat} {S : VSp} {EX : Xn → List Vl → Prop} {f : Addr} {fd : FuncData} {ps : List Str} {CX : CXT} {sp : Sp} {ta : TA}
/-- what is known of a class of exceptions by its name -/
structure ExcG (K : PySem.W.Frag) (mg : Str → Option Value) (x : Str) : Prop where
  ex : ∃ (bmB : List Value) (Bn newId initId : String), mg x = some (.ref (He.ga K x)) ∧ ExcBaseFacts Bn newId initId bmB ∧ PySem.W.excIn K (He.ga K x) bmB newId = true ∧ PySem.W.keepIn K (.ref (He.ga K x)) = true ∧
    PySem.W.subIn K (.ref (He.ga K x)) (.type "BaseException") = some true ∧ PySem.W.typeIn K (.ref (He.ga K x)) = some (.type "type")
end
section
variable {P : Program} {w : World} {K : PySem.W.Frag} {mg : Str → Option Value} {base : Heap} {k : Nat} {x qual : Str} {params : Arguments} {body : List Stmt} {scope : Scope} {dvs : List V} {kws : List (Str × V)} {f : Addr} {fd : FuncData}
end
end DL

/-! try: .. except X as e: caught = e, where the exception is told in the heap behind it. The rows of ps_try_kept follow the library's rule for a suite whose exception is forgotten; here it is kept. -/
namespace DL
open PySem PySem.Spec PyProof.Rows L2
theorem exT_ok {P : Program} {w : World} {H : Hp} {h : Heap} {a : Addr} {cls : Value} {d : Option Addr} {oe : Obj} {vs : Array Value} (e : h.get? a = some oe) (z : Zc cls d oe) (q : oe.data = .fields vs) : ObjOk P w H h a (ExT cls d a) :=
  ⟨⟨oe, vs, e, z, q⟩, ⟨oe, e⟩, fun _ _ ⟨o, v, q, r⟩ k => ⟨o, v, k o q, r⟩⟩
section
variable {X : Cx} {pins : List (Addr × Obj)} {σ : L2.St} {H : Hp} {s : Shared}
theorem track {a : Addr} {oe : Obj} {vs : Array Value} {cls : Value} {d : Option Addr} (I : Inv X pins σ H s) (ha : s.heap.get? a = some oe) (hd : oe.data = .fields vs) (hz : Zc cls d oe) (na : H a = none) (nL : a ≠ X.env.locals)
    (hP : ∀ p ∈ X.pn ++ pins, p.1 ≠ a) (h0 : X.s_0.heap.get? a = none) : Inv X pins σ (upd H a (ExT cls d a)) s where
  ok := I.ok
  os := I.os
  bare := I.bare
  base := ⟨I.base.keep, I.base.slot, fun b o q n x => by rw [upd_ne (fun z => by rw [z, h0] at q; cases q)]; exact I.base.free b o q n x, I.base.there,
    fun b xs q => by rw [upd_ne (ne_of_none (I.base.tups b xs q) na)]; exact I.base.tups b xs q,
    fun b o u q => by rw [upd_ne (ne_of_none (I.base.frzs b o u q) na)]; exact I.base.frzs b o u q,
    fun b ps q => by
      obtain ⟨more, e⟩ := I.base.tbls b ps q
      exact ⟨more, by rw [upd_ne (ne_of_none e na)]; exact e⟩⟩
  loc := I.loc
  cell := I.cell
  free := by rw [upd_ne (fun z => nL z.symm)]; exact I.free
  freeC := fun x c e => by
    obtain ⟨v, hv⟩ := I.cell x c e
    rw [upd_ne (fun z => by
      subst z
      obtain ⟨o, e1, e2⟩ := hv
      rw [ha] at e1; cases e1
      rw [hd] at e2; cases e2)]
    exact I.freeC x c e
  pin := fun p hp => by
    obtain ⟨h1, h2, h3⟩ := I.pin p hp
    exact ⟨h1, by rw [upd_ne (hP p hp)]; exact h2, h3⟩
  hok := I.hok.laidN (fun _ _ z => z) na (exT_ok ha hz hd)
  len := I.len
theorem dropQ {a : Addr} {q : Addr × Obj} (I : Inv (X.suite a (q :: (X.pn ++ pins))) [] σ H s) : Inv (X.suite a (X.pn ++ pins)) [] σ H s :=
  ⟨I.ok.suite _ _, I.os, I.bare, I.base, I.loc, I.cell, I.free, I.freeC, fun p hp => I.pin p (by
    rcases List.mem_append.mp hp with h | h
    · exact List.mem_append_left _ (List.mem_cons_of_mem _ h)
    · exact List.mem_append_right _ h), I.hok, I.len⟩
theorem unsuiteT {a : Addr} {pn' : List (Addr × Obj)} (I : Inv (X.suite a (X.pn ++ pins)) pn' σ H s) (ok : X.Ok) : Inv X pins σ H s :=
  ⟨ok, I.os, I.bare, I.base, I.loc, I.cell, I.free, I.freeC, fun p hp => I.pin p (List.mem_append_left _ hp), I.hok, I.len⟩
end
/-- what the clause 'except x as n' wishes of an exception of the body, where the suite knows the exception -/
def wKept (K : PySem.W.Frag) (c : Value) (i : Nat) (ts : TS) (Wout : WX) (D : Ends) : WX := fun cls d σ H =>
  ∃ b, PySem.W.exmOne K cls c = some b ∧ (b = true → ∀ a, H a = none → ts { nx := fun σ' H' => D.nx (σ'.set i none) H', rt := D.rt, bk := fun σ' H' => D.bk (σ'.set i none) H', ct := fun σ' H' => D.ct (σ'.set i none) H' } (σ.set i (some (.ref a))) (upd H a (ExT cls d a))) ∧
    (b = false → Wout cls d σ H)
section
variable {X : Cx} {x n : Str} {c : Value} {i : Nat} {body suite : List Stmt} {b₀ : Stmt} {np pos pos' : Pos} {tb : WX → TS} {ts : TS} {Wout : WX}
theorem ps_try_kept (hx0 : X.ex = []) (hs : X.stack = X.env :: X.outer) (hf : X.env.frame = some X.env.locals) (hN : X.N.Nodup) (hi : X.N[i]? = some n) (hln : X.env.kindOf n = some .local) (hc : Names X x c) (tk : Takes X Wout)
    (hb : ∀ (W : WX) (pn : List (Addr × Obj)) (xe : Value → Shared → Prop), Takes (X.tr pn xe) W → PassesOwn (model X.prog X.w) X.A X.env xe → PSs (X.tr pn xe) body (tb W))
    (hsu : ∀ (a : Addr) (pn : List (Addr × Obj)), PSs (X.suite a pn) (b₀ :: suite) ts) :
    PS X (.Try body [.ExceptHandler (some (.Name x np)) (some n) (b₀ :: suite) pos'] [] [] pos) (fun D σ H => tb (wKept X.K c i ts Wout D) D σ H) := by
  refine ⟨fun pins s σ H D I h => ?_⟩
  have ok := I.ok
  have hfr : X.A.frames = some (X.env :: X.outer) := by rw [ok.frames, hs]
  have hloc : Loc X.env.scope n := .inl hln
  refine wpAny_Try_except ?_
  refine wpAny_mono ((hb (wKept X.K c i ts Wout D) (X.pn ++ pins) (fun e s₁ => wpAny (model X.prog X.w) X.A (noteFrame e X.env) (fun _ s₂ => wpAny (model X.prog X.w) X.A (setFlight e none) (fun _ s₃ =>
    wpAny (model X.prog X.w) X.A (handleBy e X.env [.ExceptHandler (some (.Name x np)) (some n) (b₀ :: suite) pos']) (SP X pins D) X.xe s₃) X.xe s₂) X.xe s₁) (fun u s' xx => ?_) PassesOwn.looking).run [] s σ H D (I.toTry _) h) (fun f s1 hsp => ?_) (fun e s1 he => he)
  · -- the catch
    obtain ⟨a, B, sI, pins', σ', H', cls, d, rfl, J', nb, up, sky, na, os, ag, b, hb1, hyes, hno⟩ := xx
    have J : Inv X pins σ' H' sI := J'.ofTry ok
    have sky' : Sky B (X.env :: X.outer) a (Zc cls d) X.env.locals s'.heap := by rw [← hs]; exact sky
    show wpAny (model X.prog X.w) X.A (noteFrame (.ref a) X.env) _ _ _
    refine Sky.land Zc.steady hfr hf sky' fun h3 fl3 up3 => ?_
    have J3 : Inv X pins σ' H' { s' with heap := h3 } := J.landed nb fl3.1 (up.trans up3) os ag
    obtain ⟨oe3, vs3, he3, hz3, hd3⟩ := fl3.there
    have notFr : ∀ {h : Heap} {o : Obj} {vs : Array Value}, h.FunFrames B (X.env :: X.outer) → h.get? a = some o → o.data = .fields vs → a ∉ L2.frs (X.env :: X.outer) := fun {h o vs} ff e dd hm => by
      obtain ⟨_, o', e', hnf⟩ := ff.mem hm
      rw [e] at e'; cases e'
      exact hnf _ dd
    have nfr := notFr fl3.2.2.1 he3 hd3
    have nL : a ≠ X.env.locals := fun z => nfr (List.mem_filterMap.mpr ⟨X.env, List.mem_cons_self, by rw [hf, z]⟩)
    have nF : a ∉ X.fs := fun hm => by
      obtain ⟨e, he, q⟩ := List.mem_filterMap.mp hm
      exact nfr (List.mem_filterMap.mpr ⟨e, List.mem_cons_of_mem _ he, q⟩)
    have S3 := J3.suite he3 hd3 na nL nF
    refine wpAny_handleBy_cons (codeAny_handlers_test ?_) (by intro q; cases q)
    have LT : PySem.W.Looks (model X.prog X.w) h3 (typeOf (.ref a)) cls := fun A Q E s k q => wpAny_typeOf_ref (k _ _ he3) (by rw [hz3.1]; exact q)
    have LM := PySem.W.exm_one (M := model X.prog X.w) (J3.kIn) LT hb1
    have test : ∀ {Q : Value → Shared → Prop} {E : Value → Shared → Prop}, Q c { s' with heap := h3 } → wpAny (model X.prog X.w) (X.A.mark (some (.ref a))) (eval (.Name x np) X.env) Q E { s' with heap := h3 } := fun {Q E} q => by
      obtain ⟨hg, hdbg, hm | ⟨hm, hv, hnn⟩⟩ := hc
      · exact ld_glob (X := X.suite a ((a, oe3) :: (X.pn ++ pins))) S3 hg hm q hdbg
      · exact ld_blt (X := X.suite a ((a, oe3) :: (X.pn ++ pins))) S3 hg hm hv q hnn hdbg
    refine test (LM.here ?_)
    cases b with
    | true =>
      refine codeAny_handlers_suite_as ?_
      refine HandSPX.lands_againZ fl3 fun h4 fl4 up4 => ?_
      have J4 : Inv X pins σ' H' { s' with heap := h4 } := J.landed nb fl4.1 ((up.trans up3).trans up4) os ag
      obtain ⟨oe4, vs4, he4, hz4, hd4⟩ := fl4.there
      have S4 := J4.suite he4 hd4 na nL nF
      refine store_ok (X := X.suite a ((a, oe4) :: (X.pn ++ pins))) (v := .ref a) S4 hN hi hloc rfl (fun s5 S5 => ?_) (.inr hln)
      have hbn : B.get? a = none := fl4.2.1
      have h0 : X.s_0.heap.get? a = none := by
        cases q : X.s_0.heap.get? a with
        | none => rfl
        | some o =>
          obtain ⟨o', e'⟩ := J.base.there a o q (by rw [hx0]; exact List.not_mem_nil)
          have := nb a o' e' (by rw [hs]; exact nfr)
          rw [hbn] at this; cases this
      have hP : ∀ p ∈ X.pn ++ pins, p.1 ≠ a := fun p hp z => by
        have := nb p.1 p.2 (J.pin p hp).1 (by rw [hs, z]; exact nfr)
        rw [z, hbn] at this; cases this
      have T5 : Inv (X.suite a (X.pn ++ pins)) [] (σ'.set i (some (.ref a))) (upd H' a (ExT cls d a)) s5 := by
        have h5 := S5.pin (a, oe4) (List.mem_append.mpr (.inl List.mem_cons_self))
        exact track (dropQ S5) h5.1 hd4 hz4 h5.2.1 nL (fun p hp => hP p (by rw [List.append_nil] at hp; exact hp)) h0
      refine wpAny_mono ((hsu a (X.pn ++ pins)).run [] s5 _ _ _ T5 (hyes rfl a na)) (fun f s6 hsp => ?_) (fun _ _ z => False.elim z)
      have end_ : ∀ {σ6 : L2.St} {H6 : Hp} {Q : Shared → Prop}, Inv (X.suite a (X.pn ++ pins)) [] σ6 H6 s6 → (∀ s7, Inv X pins (σ6.set i none) H6 s7 → Q s7) →
          wpAny (model X.prog X.w) X.A (do bindName X.env n .none; unbindBehindTheSuite X.env n pos') (fun _ s7 => Q s7) X.xe s6 := fun {σ6 H6 Q} S6 hq => gone_ok (unsuiteT S6 ok) hN hi hln hq
      cases f with
      | next =>
        obtain ⟨σ6, H6, S6, q6⟩ := hsp
        exact end_ S6 fun s7 J7 => ⟨_, _, J7, q6⟩
      | brk =>
        obtain ⟨σ6, H6, S6, q6⟩ := hsp
        exact end_ S6 fun s7 J7 => ⟨_, _, J7, q6⟩
      | cont =>
        obtain ⟨σ6, H6, S6, q6⟩ := hsp
        exact end_ S6 fun s7 J7 => ⟨_, _, J7, q6⟩
      | ret u =>
        obtain ⟨v6, σ6, H6, S6, r6, q6⟩ := hsp
        exact end_ S6 fun s7 J7 => ⟨_, _, _, J7, r6, q6⟩
    | false =>
      show wpAny _ X.A (handleBy (.ref a) X.env []) _ _ _
      refine wpAny_handleBy_nil ?_
      obtain ⟨k1, k2, k3, oe, vs, T, oT, ts', he, hz, hd, h1, hr⟩ := id fl3
      unfold PySem.passOn
      refine wpAny_bind (wpAny_field he hd h1 ?_)
      rw [if_neg (show ¬ ((Value.ref T == Value.none) = true) from by simp)]
      have fin : wpAny (model X.prog X.w) X.A (setFlight (.ref a) X.env.frame) (fun _ s4 => wpAny (model X.prog X.w) X.A (throw (.ref a) : Sem Flow) (SP X pins D) X.xe s4) X.xe { s' with heap := h3 } := by
        rw [hf]
        refine HandSPX.setFlight_upZ fl3 fun h4 hh4 up4 => wpAny_throw (tk _ _ ?_)
        exact ⟨a, B, sI, pins, σ', H', cls, d, rfl, J, nb, (up.trans up3).trans up4, .inr (.inr (by rw [hs]; exact hh4)), na, os, ag, hno rfl⟩
      first
        | exact wpAny_bind (wpAny_pure (wpAny_bind fin))
        | exact wpAny_bind fin
  · cases f with
    | next =>
      obtain ⟨σ', H', J', q⟩ := hsp
      exact wpAny_execs_nil ⟨σ', H', J'.ofTry ok, q⟩
    | brk =>
      obtain ⟨σ', H', J', q⟩ := hsp
      exact ⟨σ', H', J'.ofTry ok, q⟩
    | cont =>
      obtain ⟨σ', H', J', q⟩ := hsp
      exact ⟨σ', H', J'.ofTry ok, q⟩
    | ret u =>
      obtain ⟨v, σ', H', J', r, q⟩ := hsp
      exact ⟨v, σ', H', J'.ofTry ok, r, q⟩
end
end DL

/-! try over data; isinstance of an exception that is held. -/
namespace DL
open PySem PySem.Spec PyProof.Rows L2
/-! ### statements of the def itself: no temps, no slots locked but its own call's -/
section
variable {X : Cx} {B : Ba} {lk : List Nat} {s : Stmt} {rest : List Stmt} {t u : DTS}
end
/-! ### try -/
section
variable {X : Cx} {B : Ba} {lk : List Nat} {x n : Str} {c : Value} {i : Nat} {body suite : List Stmt} {b₀ : Stmt} {np pos pos' : Pos} {tb : (Xn → List Vl → Prop) → DTS} {ts : DTS} {L : List Str}
end
/-! ### isinstance of an exception that is held -/
/-- is the class x one of c? -/
def exSub (x c : Str) : Bool := decide (x = c) || (decide (c = "PointError") || decide (c = "ValueError"))
/-- what is known of the classes L of the program's own exceptions -/
structure ExL (K : PySem.W.Frag) (mg : Str → Option Value) (L : List Str) : Prop where
  cl : ∀ x ∈ L, ExcC K (He.ga K x)
  glo : ∀ x ∈ L, mg x = some (.ref (He.ga K x))
  pr : ∀ x ∈ L, ∀ c ∈ L, PySem.W.kitOne K (.ref (He.ga K x)) (.ref (He.ga K c)) = some (exSub x c)
  ve : ∀ x ∈ L, PySem.W.kitOne K (.ref (He.ga K x)) (.type "ValueError") = some true
  ex : ∀ x ∈ L, PySem.W.exmOne K (.ref (He.ga K x)) (.ref (He.ga K "PointError")) = some true
section
variable {X : Cx}
end
section
variable {X : Cx} {B : Ba} {lk : List Nat} {e : Expr} {es : List Expr} {t : DT} {p p2 p3 pos : Pos} {c : Str} {cs L : List Str}
end
end DL

/-! Defs that catch: their promise; what never raises of what may; the head's facts of classes; count and index of truths; the steps. -/
namespace DL
open PySem PySem.Spec PyProof.Rows L2
section
variable {P : Program} {w : World} {K : PySem.W.Frag} {mg : Str → Option Value} {base : Heap} {CX : CXT} {k : Nat} {x qual : Str} {params : Arguments} {body : List Stmt} {scope : Scope} {dvs : List V} {kws : List (Str × V)} {f : Addr} {fd : FuncData}
end
/-! ### the head's facts of classes -/
/-! ### count and index of truths -/
section
variable {X : Cx} {B : Ba} {lk : List Nat} {o e : Expr} {to te : DT} {apos cpos p2 : Pos} {b : Bool} {j2 : Option Str}
end
/-! ### the steps -/
section
variable {st st' : List Vl} {Q : Vl → List Vl → Prop} {D : DEnds} {to ta : DT} {d : Vl} {EX : Xn → List Vl → Prop} {lk : List Nat} {S : VSp} {x : Str} {L cs : List Str}
end
end DL

/-! The layer of one point more. -/
namespace DL
open PySem PySem.Spec PyProof.Rows L2
section
variable {ps : List (List Int)} {z : List Int}
end
end DL

/-! xs[lo:hi:c] of whole numbers: some list of xs's numbers. The rows of pe_slk follow the library's rule for xs[::-1]. -/
namespace DL
open PySem PySem.Spec PyProof.Rows L2
def pickI (n : Nat) (lo hi : Option Int) (c : Int) : List Nat := sliceRange (sliceBounds lo hi (some c) n).1 (sliceBounds lo hi (some c) n).2.1 (sliceBounds lo hi (some c) n).2.2
def pickV {α : Type} (xs : List α) (is : List Nat) : List α := is.filterMap fun i => xs[i]?
theorem vals_pick {xs : List V} {us : List Value} (r : Vals xs us) : ∀ is : List Nat, Vals (pickV xs is) (pickV us is)
  | [] => .nil
  | i :: is => by
    unfold pickV
    rw [List.filterMap_cons, List.filterMap_cons]
    cases e : xs[i]? with
    | none =>
      have : us[i]? = none := by
        rw [List.getElem?_eq_none_iff] at e ⊢
        rw [← r.length]; exact e
      rw [this]
      exact vals_pick r is
    | some x =>
      obtain ⟨u, h1, h2⟩ := r.get e
      rw [h1]
      exact .cons h2 (vals_pick r is)
theorem pick_arr (us : List Value) (lo hi : Option Int) (c : Int) : slicePick us.toArray lo hi (some c) = (pickV us (pickI us.length lo hi c)).toArray := by
  unfold slicePick pickV pickI
  rw [List.size_toArray]
  simp
theorem pick_len (us : List Value) (lo hi : Option Int) (c : Int) : (pickV us (pickI us.length lo hi c)).length ≤ us.length := by
  have h := slicePick_size_le us.toArray lo hi (some c)
  rw [pick_arr, List.size_toArray, List.size_toArray] at h
  exact h
def tSlk (K : PySem.W.Frag) (te : TE) (tl th : TO) (c : Int) : TE := fun σ H Q => te σ H fun x H1 => tl σ H1 fun l H2 => th σ H2 fun u H3 => ∃ a xs, x = .ref a ∧ SqL K H3 a xs ∧ ∀ p, H3 p = none → Q (.ref p) (upd H3 p (.lst (pickV xs (pickI xs.length l u c))))
section
variable {X : Cx}
theorem pe_slk {e : Expr} {lo hi : Option Expr} {te : TE} {tl th : TO} {c : Int} {k p1 p3 pos} (hc : c ≠ 0) (he : PE X e te) (hl : PO X lo tl) (hu : PO X hi th) : PE X (.Subscript e (.Slice lo hi (some (.Constant (.int c) k p1)) p3) pos) (tSlk X.K te tl th c) := by
  refine ⟨fun pins s σ H Q I h => ?_⟩
  refine Subscript_ (thn (he.run pins s σ H _ I h) fun v s1 ⟨x, H1, I1, r1, q1⟩ => ?_)
  have hst : PO X (some (.Constant (.int c) k p1)) (tPart (tC (.int c))) := po_some pe_int
  refine wpAny_Slice (thn (hl.run pins s1 σ H1 _ I1 q1) fun vl s2 ⟨l, H2, I2, pl, q2⟩ => thn (hu.run pins s2 σ H2 _ I2 q2) fun vu s3 ⟨u, H3, I3, pu, q3⟩ => ?_)
  refine thn (hst.run pins s3 σ H3 (fun o H4 => o = some c ∧ H4 = H3) I3 ⟨c, rfl, rfl, rfl⟩) fun vs s4 ⟨o, H4, I4, ps, eo, e4⟩ => ?_
  subst eo e4
  obtain ⟨a, xs, ex, hx, q⟩ := q3
  subst ex
  cases r1
  have I5 : Inv X pins σ H4 { s4 with heap := s4.heap.push { cls := .type "slice", data := .fields #[vl, vu, vs] } } := I4.kept (t' := s4.toks) fun b ob q => Heap.get?_push_of_some _ q
  obtain ⟨its, r, ht, hz⟩ := I5.list hx
  have hlen := r.length
  show wpAny (model X.prog X.w) X.A (subscriptTail e (.Slice lo hi (some (.Constant (.int c) k p1)) p3) (.ref a) (.ref s4.heap.objs.size)) (EP X pins σ Q) X.xe { s4 with heap := s4.heap.push { cls := .type "slice", data := .fields #[vl, vu, vs] } }
  refine tail_any (ops := [.ref a, .ref s4.heap.objs.size]) ht.isList.typeIs (PySem.slot_list_getitem.lookup) ?_ (by with_unfolding_all rfl)
  refine wpAny_getItem_list_slice ht.isList (Heap.IsSliceOf.new _ vl vu vs) pl pu ps (fun z => hc (Option.some.inj z)) ?_ (by rw [List.size_toArray]; omega)
  rw [pick_arr]
  have hpl := pick_len its l u c
  refine ⟨.ref _, _, I5.laid (t' := s4.toks) (o := .lst (pickV xs (pickI xs.length l u c))) (fun b ob q => Heap.get?_push_of_some _ q) (Nat.le_refl _) ?_, rfl, q _ (I5.hok.fresh (Nat.le_refl _))⟩
  have rp := vals_pick r (pickI its.length l u c)
  rw [hlen]
  exact ⟨by rw [rp.length]; omega, _, 0, rp, Heap.get?_push_size _ rfl⟩
end
section
variable {X : Cx} {B : Ba} {lk : List Nat} {e : Expr} {te : DT} {lo hi : Option Expr} {tl th : DTO} {c : Int}
end
end DL

/-! Defs that are called where an exception is handled, too: they raise nothing, try nothing. -/
namespace DL
open PySem PySem.Spec PyProof.Rows L2
abbrev RoomW := L2H.RoomH
structure FnW (P : Program) (w : World) (K : PySem.W.Frag) (mg : Str → Option Value) (base : Heap) (CX : CXT) (k : Nat) (f : Addr) (fd : FuncData) (ps : List Str) (sp : Sp) : Prop where
  len : ∀ vs H Q E, sp vs H Q E → vs.length = ps.length
  run : ∀ (A : Around) (outer : List Env) (s : Shared) (H : Hp) (args : Args) (us : List Value) (vs : List V) (Q : VK) (E : XK), RoomW k A → A.guards = some [] → Env0 P w K mg base A outer s H → BindsTo s fd args (ps.zip us) → Vals vs us → sp vs H Q E →
    codeAny (model P w) A (.call (.ref f) args) (CR CX outer P w H s Q E) s
section
variable {P : Program} {w : World} {K : PySem.W.Frag} {mg : Str → Option Value} {base : Heap} {CX : CXT} {k : Nat} {x qual : Str} {params : Arguments} {body : List Stmt} {scope : Scope} {dvs : List V} {kws : List (Str × V)} {f : Addr} {fd : FuncData}
end
structure DefW (P : Program) (w : World) (K : PySem.W.Frag) (mg : Str → Option Value) (base : Heap) (CX : CXT) (k : Nat) (x : Str) (lk : List Nat) (n : Nat) (S : VSp) : Prop where
  ex : ∃ f fd ps, mg x = some (.ref f) ∧ FnW P w K mg base CX k f fd ps (spV K mg lk n S) ∧ Binds K fd ps [] ∧ PySem.W.keepIn K (.ref f) = true
section
variable {X : Cx} {B : Ba} {CX : CXT} {k j n : Nat} {f : Addr} {fd : FuncData} {ps : List Str} {sp : Sp} {E : XK} {x : Str} {p pos : Pos} {e : Expr} {es : List Expr} {ta : TA} {t : DTA} {lk lk' : List Nat} {S : VSp}
end
end DL

/-! Corners: a spot beyond a corner. -/
namespace DL
open PySem PySem.Spec PyProof.Rows L2
/-- the classes of refusals, in the laws' order -/
abbrev kinds : List Str := ["NoMeasures", "NoPoint", "NoKin", "TooMany", "NoNumber", "NoCorners", "NoDeed", "NoWindow", "NoWeights", "NoOrder", "NoRow", "NoLot", "NoTable", "NoLoss", "NoLine", "NoText"]
end DL

/-! Comprehensions that draw. Who stands for whom within a loss; the deck of the laws about losses. -/
namespace DL
open PySem PySem.Spec PyProof.Rows L2
def stands (xs ys : List Int) (v : Int) : Bool := (xs.zip ys).all fun p => decide (p.2 ≤ p.1 + v)
/-- a whole number out of a written row -/
theorem atI_in {P : Int → Prop} {xs : List PyData} {i : Int} (ns : List Int) (e : xs = ns.map .int) (h0 : 0 ≤ i) (h : i < ns.length) (hp : ∀ x ∈ ns, P x) : ∃ p, atI xs i = some (.int p) ∧ P p := by
  subst e
  exact atI_all h0 (by rw [List.length_map]; exact h) fun d hd => by
    obtain ⟨x, hx, rfl⟩ := List.mem_map.mp hd
    exact ⟨x, rfl, hp x hx⟩
/-- a comprehension that draws k times an item from the pot in slot j -/
theorem s_lcDraw {α β : Type} {ws : List Nat} {items : List PyData} {cond : List Vl → Prop} {g : DTG} {tt : DTT} {te : DT} {st1 : List Vl} {Q : Vl → List Vl → Prop} {mk : List PyData → List Vl} {L0 : List PyData} {c : Nat} (j : Nat) (l : List α) (enc : α → PyData) (f : β → PyData) (P : Nat → List PyData → Prop) (G : β → Prop) (k : Nat)
    (hi : items = l.map enc) (e : ∀ L, (wipeD ws st1).set j (.ow L) = mk L) (e0 : (wipeD ws st1)[j]? = some (.ow L0)) (hc : ∀ L, cond (mk L)) (hl : l.length ≤ sizeLine) (hP : P c L0)
    (step : ∀ a, a ∈ l → ∀ (c' : Nat) (L : List PyData), P c' L → c' + k ≤ c + k * l.length → ∀ K : Option PyData → List Vl → Prop, (∀ (L' : List PyData) (b : β), P (c' + k) L' → G b → K (some (f b)) (mk L')) → lcTurn ws g tt te (enc a) (mk L) K)
    (fin : ∀ (L : List PyData) (bs : List β), P (c + k * l.length) L → bs.length = l.length → (∀ b ∈ bs, G b) → RsK st1 ws (mk L) (Q (.ow (bs.map f)))) : LcK ws items cond g tt te st1 Q := by
  have e1 : wipeD ws st1 = mk L0 := by
    rw [← e L0]
    refine List.ext_getElem? fun i => ?_
    by_cases q : j = i
    · subst q
      rw [List.getElem?_set_self (List.getElem?_eq_some_iff.mp e0).1, e0]
    · rw [List.getElem?_set_ne q]
  refine s_lcInv l enc (fun l' acc st => ∃ (pre : List α) (L : List PyData) (bs : List β), l = pre ++ l' ∧ P (c + k * pre.length) L ∧ bs.length = pre.length ∧ (∀ b ∈ bs, G b) ∧ acc = bs.map f ∧ st = mk L) hi e1 (hc _) hl ⟨[], L0, [], rfl, by simpa using hP, rfl, (by intro b h; cases h), rfl, rfl⟩ ?_ ?_
  · rintro a l' acc st ⟨pre, L, bs, el, hP, hb, hG, rfl, rfl⟩ K hK
    have hlen : k * l.length = k * pre.length + k + k * l'.length := by
      rw [el, List.length_append, List.length_cons, Nat.mul_add, Nat.mul_add, Nat.mul_one]
      omega
    refine step a (by rw [el]; simp) (c + k * pre.length) L hP (by omega) K fun L' b h1 h2 => hK _ _ ⟨pre ++ [a], L', bs ++ [b], by rw [el, List.append_assoc]; rfl, by rw [List.length_append, List.length_singleton, Nat.mul_add, Nat.mul_one, ← Nat.add_assoc]; exact h1, by rw [List.length_append, List.length_append, hb]; rfl, fun x hx => ?_, by rw [List.map_append]; rfl, rfl⟩ (hc _)
    rcases List.mem_append.mp hx with h | h
    · exact hG x h
    · rw [List.mem_singleton.mp h]; exact h2
  · rintro acc st ⟨pre, L, bs, el, hP, hb, hG, rfl, rfl⟩
    rw [List.append_nil] at el
    subst el
    exact fin L bs hP hb hG
end DL

/-! Rising numbers of a book; lots. -/
namespace DL
open PySem PySem.Spec PyProof.Rows L2
def rises (xs : List Int) (n : Int) : Bool := (xs.all fun x => withinD (.int x) 0 (n - 1)) && (xs.zip (xs.drop 1)).all fun p => decide (p.1 < p.2)
theorem rises_in {xs : List Int} {n : Int} (h : rises xs n = true) : ∀ x ∈ xs, 0 ≤ x ∧ x < n := fun x hx => by
  have := List.all_eq_true.mp (Bool.and_eq_true _ _ ▸ h).1 x hx
  simp only [withinD, Bool.and_eq_true, decide_eq_true_eq] at this
  omega
theorem ptsAtI {ps : List (List Int)} {x : Int} (h0 : 0 ≤ x) (h : x < (ps.length : Nat)) : atI (ps.map pt) x = some (pt (ps.getD x.toNat [])) := by
  obtain ⟨k, rfl⟩ : ∃ k : Nat, x = (k : Int) := ⟨x.toNat, by omega⟩
  exact ptsAt (by omega)
/-! ### witnesses -/
theorem s_srtI {st : List Vl} {v : Vl} {QF : Vl → Prop} (xs : List Int) (e1 : pyO st v = some (.list (xs.map .int))) (h : QF (.ow ((xs.mergeSort fun a b => decide (a ≤ b)).map .int))) : gSrt st v QF :=
  s_srt e1 (alike_ints' xs) (sortable_ints xs) (dep_ints _ xs) (by rw [sort_ints]; exact h)
end DL

/-! Books with bounded numbers; books joined, numbers chosen. -/
namespace DL
open PySem PySem.Spec PyProof.Rows L2
/-- a number of a point -/
def NB (x : Int) : Prop := -1000000000 ≤ x ∧ x ≤ 1000000000
def Pn (m : Nat) (p : List Int) : Prop := p.length = m ∧ ∀ x ∈ p, NB x
/-- what a thing's text takes -/
structure Sh (n : Nat) (d : PyData) : Prop where
  ok : d.showable = true
  len : d.shown.length ≤ n
/-! ### rising numbers by what they hold -/
theorem rise_pairs : ∀ xs : List Int, ((xs.zip (xs.drop 1)).all fun p => decide (p.1 < p.2)) = true ↔ xs.Pairwise (· < ·)
  | [] => by simp
  | [x] => by simp
  | x :: y :: xs => by
    have ih := rise_pairs (y :: xs)
    rw [List.pairwise_cons, ← ih]
    simp only [List.drop_succ_cons, List.drop_zero, List.zip_cons_cons, List.all_cons, Bool.and_eq_true, decide_eq_true_eq] at ih ⊢
    constructor
    · rintro ⟨h1, h2⟩
      refine ⟨fun z hz => ?_, h2⟩
      rcases List.mem_cons.mp hz with rfl | hz
      · exact h1
      · have := (List.pairwise_cons.mp (ih.mp h2)).1 z hz
        omega
    · rintro ⟨h1, h2⟩
      exact ⟨h1 y List.mem_cons_self, h2⟩
theorem any_int (xs : List Int) (x : Int) : ((xs.map PyData.int).any fun z => PyData.eqv z (.int x)) = decide (x ∈ xs) := by
  rw [List.any_map, Bool.eq_iff_iff, List.any_eq_true, decide_eq_true_eq]
  constructor
  · rintro ⟨y, hy, e⟩
    rw [Function.comp, eqv_int, decide_eq_true_eq] at e
    rw [← e]; exact hy
  · intro h
    exact ⟨x, h, by rw [Function.comp, eqv_int, decide_eq_true_eq]⟩
end DL

/-! Lists of numbers that may follow one another, counted. -/
namespace DL
open PySem PySem.Spec PyProof.Rows L2
/-- how many lists of k more numbers go on from each -/
def gon (fo : List (List Nat)) : Nat → List Nat
  | 0 => List.replicate fo.length 1
  | k + 1 => fo.map fun s => (s.map fun j => (gon fo k).getD j 0).sum
/-- a graph without rounds -/
structure Fo (fo : List (List Nat)) : Prop where
  len : fo.length ≤ 1000
  small : ∀ s ∈ fo, s.length ≤ 1000
  inn : ∀ s ∈ fo, ∀ j ∈ s, j < fo.length
  ranked : ∃ r : Nat → Nat, (∀ i, r i ≤ 1000) ∧ ∀ i s, fo[i]? = some s → ∀ j ∈ s, r j < r i
section
variable {fo : List (List Nat)}
theorem gon_zero (r : Nat → Nat) (hr : ∀ i s, fo[i]? = some s → ∀ j ∈ s, r j < r i) : ∀ k i, r i < k → (gon fo k).getD i 0 = 0
  | 0, _, h => absurd h (Nat.not_lt_zero _)
  | k + 1, i, h => by
    rw [gon, List.getD_eq_getElem?_getD, List.getElem?_map]
    cases e : fo[i]? with
    | none => rfl
    | some s =>
      show (s.map fun j => (gon fo k).getD j 0).sum = 0
      have : ∀ j ∈ s, (gon fo k).getD j 0 = 0 := fun j hj => gon_zero r hr k j (by have := hr i s e j hj; omega)
      rw [List.map_congr_left this]
      clear this e
      induction s with
      | nil => rfl
      | cons a s ih => rw [List.map_cons, List.sum_cons, ih]
theorem sum_zero_of {l : List Nat} (h : ∀ i, l.getD i 0 = 0) : l.sum = 0 := by
  induction l with
  | nil => rfl
  | cons a l ih =>
    have h0 : a = 0 := h 0
    rw [List.sum_cons, ih (fun i => h (i + 1)), h0]
theorem gon_end (F : Fo fo) : ∃ L, L ≤ 1001 ∧ (∀ k, k < L → 0 < (gon fo k).sum) ∧ (gon fo L).sum = 0 := by
  obtain ⟨r, h0, hr⟩ := F.ranked
  have hz : (gon fo 1001).sum = 0 := sum_zero_of fun i => gon_zero r hr 1001 i (by have := h0 i; omega)
  have key : ∀ n, (gon fo n).sum = 0 → ∃ L, L ≤ n ∧ (∀ k, k < L → 0 < (gon fo k).sum) ∧ (gon fo L).sum = 0 := by
    intro n
    induction n using Nat.strongRecOn with
    | _ n ih =>
      intro hn
      by_cases h : ∃ k, k < n ∧ (gon fo k).sum = 0
      · obtain ⟨k, hk, e⟩ := h
        obtain ⟨L, h1, h2, h3⟩ := ih k hk e
        exact ⟨L, by omega, h2, h3⟩
      · exact ⟨n, Nat.le_refl _, fun k hk => by
          rcases Nat.eq_zero_or_pos (gon fo k).sum with e | e
          · exact absurd ⟨k, hk, e⟩ h
          · exact e, hn⟩
  exact key _ hz
end
/-- how long the longest list is -/
noncomputable def longest (fo : List (List Nat)) (F : Fo fo) : Nat := Classical.choose (gon_end F)
/-- a place among the lists that go on from some: there is one whose share it falls into -/
theorem share {w : Nat → Nat} : ∀ (s : List Nat) (p : Nat), p < (s.map w).sum → ∃ j ∈ s, ∃ q, q < w j ∧ True
  | [], p, h => absurd h (Nat.not_lt_zero _)
  | a :: s, p, h => by
    by_cases e : p < w a
    · exact ⟨a, List.mem_cons_self, p, e, trivial⟩
    · rw [List.map_cons, List.sum_cons] at h
      obtain ⟨j, hj, q, hq, _⟩ := share (w := w) s (p - w a) (by omega)
      exact ⟨j, List.mem_cons_of_mem _ hj, q, hq, trivial⟩
/-! ### rows of beating -/
end DL

/-! t < u and t >= u of tuples of whole numbers (the rows of op_geT follow the library's rule for <=). -/
namespace DL
open PySem PySem.Spec PyProof.Rows L2
def lexGe (ns ms : List Int) : Bool := Ob.lexAt (fun j => decide (ns.getD j 0 = ms.getD j 0)) (fun j => decide (ms.getD j 0 ≤ ns.getD j 0)) (decide (ms.length ≤ ns.length)) 0 (min ns.length ms.length)
def rGeT (K : PySem.W.Frag) : R2 := fun x y H Q => ∃ (a b : Addr) (ns ms : List Int), x = .ref a ∧ y = .ref b ∧ SqT K H a (ns.map V.int) ∧ SqT K H b (ms.map V.int) ∧ Q (.bl (lexGe ns ms)) H
theorem op_geT {X : Cx} (hu : X.A.units < cLine) : OpR X (compareOp .GtE) (rGeT X.K) := by
  intro pins s σ H x y v u Q I rx ry h
  obtain ⟨a, b, ns, ms, rfl, rfl, ha, hb, q⟩ := h
  cases rx
  cases ry
  obtain ⟨its, r1, p1, _⟩ := I.tuple ha
  obtain ⟨its2, r2, p2, _⟩ := I.tuple hb
  have i1 : IntsAre its ns := Vals.ints r1
  have i2 : IntsAre its2 ms := Vals.ints r2
  have e1 : its.toArray.size = ns.length := by rw [List.size_toArray]; exact i1.length
  have e2 : its2.toArray.size = ms.length := by rw [List.size_toArray]; exact i2.length
  have at1 : ∀ j (h1 : j < its.toArray.size), ∃ t, its.toArray[j] = .int (ns.getD j 0) t := fun j h1 => PyProof.Rows.IntsAre.int_at i1 _ _ (by simp at h1; simp [h1])
  have at2 : ∀ j (h1 : j < its2.toArray.size), ∃ t, its2.toArray[j] = .int (ms.getD j 0) t := fun j h1 => PyProof.Rows.IntsAre.int_at i2 _ _ (by simp at h1; simp [h1])
  have R := Ob.RcOp.tuples_ge (A := X.A) (s := s) (e := fun j => decide (ns.getD j 0 = ms.getD j 0)) (r := fun j => decide (ms.getD j 0 ≤ ns.getD j 0)) p1 p2 hu (fun j h1 h2 => by
    obtain ⟨t, et⟩ := at1 j h1
    obtain ⟨t', et'⟩ := at2 j h2
    rw [et, et']
    have z : (ns.getD j 0 == ms.getD j 0) = decide (ns.getD j 0 = ms.getD j 0) := by
      by_cases q : ns.getD j 0 = ms.getD j 0
      · rw [decide_eq_true q]; exact beq_iff_eq.mpr q
      · rw [decide_eq_false q]; exact beq_eq_false_iff_ne.mpr q
    rw [← z]
    exact SeqAt.EqAt.int_int _ _ _ _) (fun j h1 h2 _ => by
    obtain ⟨t, et⟩ := at1 j h1
    obtain ⟨t', et'⟩ := at2 j h2
    rw [et, et']
    exact Ob.RcOp.ge_int _ _ _ _)
  rw [e1, e2] at R
  have z : wpAny (model X.prog X.w) X.A (compareOp .GtE (.ref a) (.ref b)) (EP X pins σ Q) X.xe s := R X.prog X.w X.xe (EP X pins σ Q) ⟨.bl _, H, I, rfl, q⟩
  exact z
section
variable {K : PySem.W.Frag} {X : Cx} {B : Ba} {lk : List Nat} {a b : Expr} {ta tb : DT} {pos : Pos}
end
end DL

/-! Lots apart along the stair of two measures. -/
namespace DL
open PySem PySem.Spec PyProof.Rows L2
abbrev px (ps : List (List Int)) (i : Nat) : Int := (ps.getD i []).getD 0 0
abbrev py (ps : List (List Int)) (i : Nat) : Int := (ps.getD i []).getD 1 0
section
variable {ps : List (List Int)}
end
end DL

/-! sorted of a tuple (the rows follow the library's rules for a list). -/
namespace DL
open PySem PySem.Spec PyProof.Rows PySem.Calls L2
section
variable {prog : Program} {w : World} {A : Around} {E : Value → Shared → Prop} {s : Shared} {vs : List Value}
end
section
variable {X : Cx} {B : Ba} {lk : List Nat} {e : Expr} {es : List Expr} {t : DTA} {p pos : Pos}
end
end DL

/-! A word looked up in a display of texts; how two points stand, as a word. -/
namespace DL
open PySem PySem.Spec PyProof.Rows L2
section
variable {X : Cx} {B : Ba} {lk : List Nat} {i : Expr} {ti : DT} {pos pos' : Pos}
end

/-! ### how two points stand, as a word -/
def wordH (p q : List Int) : Str := if p = q then "like" else if isover p q = true then "beats" else if isover q p = true then "beaten" else "apart"
abbrev TT : List (Str × Str) := [("beats", "beaten"), ("beaten", "beats"), ("like", "like"), ("apart", "apart")]
theorem isover_at : ∀ {p q : List Int}, p.length = q.length → (isover p q = true ↔ ∀ k, k < p.length → q.getD k 0 ≤ p.getD k 0)
  | [], [], _ => ⟨fun _ k h => absurd h (Nat.not_lt_zero _), fun _ => rfl⟩
  | x :: p, y :: q, h => by
    rw [isover_cons, Bool.and_eq_true, decide_eq_true_eq, isover_at (Nat.succ.inj h)]
    refine ⟨fun ⟨a, b⟩ k hk => ?_, fun z => ⟨z 0 (Nat.zero_lt_succ _), fun k hk => z (k + 1) (Nat.succ_lt_succ hk)⟩⟩
    cases k with
    | zero => exact a
    | succ k => exact b k (Nat.lt_of_succ_lt_succ hk)
def wr (ps : List (List Int)) (p : List Int) : List PyData := ps.map fun q => .str (wordH p q)
end DL

/-! min with a default; a walk over reversed(tuple). -/
namespace DL
open PySem PySem.Spec PyProof.Rows L2
section
variable {prog : Program} {w : World} {A : Around} {E : Value → Shared → Prop} {s : Shared} {a : Addr} {its : List Value} {ns : List Int} {Q : Value → Shared → Prop}
end
section
variable {X : Cx} {B : Ba} {K : PySem.W.Frag} {lk : List Nat} {e d : Expr} {es : List Expr} {t : DTA} {ta td : DT} {p pos kpos : Pos}
end
section
variable {st : List Vl} {Q : Vl → List Vl → Prop} {ta td : DT}
end
/-! ### reversed(a tuple) -/
open RT
section
variable {K : PySem.W.Frag} {B : Ba} {d : Vl}
end
section
variable {X : Cx} {B : Ba} {lk : List Nat} {tg e : Expr} {te : DT} {p pos : Pos}
end
end DL

/-! sorted of pairs (tuple of numbers, number); orders of measures. -/
namespace DL
open PySem PySem.Spec PyProof.Rows L2
/-! ### orders of measures -/
def tk (os : List Nat) (p : List Int) : List Int := os.map fun k => 0 - p.getD k 0
/-- ahead: the first of the order's measures at which they differ tells -/
def ahd : List Nat → List Int → List Int → Bool
  | [], _, _ => false
  | k :: os, p, q => if p.getD k 0 = q.getD k 0 then ahd os p q else decide (q.getD k 0 < p.getD k 0)
section
variable {m : Nat} {os : List Nat}
end
end DL

/-! the points in an order; weights by which an order goes. -/
namespace DL
open PySem PySem.Spec PyProof.Rows L2
def prs (ps : List (List Int)) (os : List Nat) : List (List Int × Int) := ps.zipIdx.map fun p => (tk os p.1, (p.2 : Int))
/-! ### weights -/
def dS (os : List Nat) (ws p q : List Int) : Int := (os.map fun k => (p.getD k 0 - q.getD k 0) * ws.getD k 0).sum
structure WJ (ps : List (List Int)) (os : List Nat) (ws : List Int) (b : Int) : Prop where
  pos : 0 ≤ b
  one : ∀ k ∈ os, 1 ≤ ws.getD k 0
  top : ∀ p ∈ ps, ∀ q ∈ ps, dS os ws p q ≤ b
  ahead : ∀ p ∈ ps, ∀ q ∈ ps, ahd os p q = true → 1 ≤ dS os ws p q
end DL

/-! the spread in a measure, the weights of an order, as functions. -/
namespace DL
open PySem PySem.Spec PyProof.Rows L2
end DL

/-! going by an order: the chain of the sorted points tells of all pairs. -/
namespace DL
open PySem PySem.Spec PyProof.Rows L2
end DL

/-! min of a tuple. -/
namespace DL
open PySem PySem.Spec PyProof.Rows L2
section
variable {prog : Program} {w : World} {A : Around} {E : Value → Shared → Prop} {s : Shared} {a : Addr} {its : List Value} {ns : List Int} {Q : Value → Shared → Prop}
end
section
variable {X : Cx} {B : Ba} {K : PySem.W.Frag} {lk : List Nat} {e d : Expr} {es : List Expr} {t : DTA} {ta td : DT} {p pos kpos : Pos}
end
end DL

/-! sorted(set(..)) of whole numbers. -/
namespace DL
open PySem PySem.Spec PyProof.Rows PySem.Calls L2
/-! ### strictly sorted, each thing once -/
section
variable {α : Type} [DecidableEq α]
def insU (lt : α → α → Bool) (x : α) : List α → List α
  | [] => [x]
  | y :: l => if lt x y then x :: y :: l else if x = y then y :: l else y :: insU lt x l
def uniq (lt : α → α → Bool) (l : List α) : List α := l.foldr (insU lt) []
theorem mem_insU {lt : α → α → Bool} {x z : α} : ∀ {l : List α}, z ∈ insU lt x l ↔ z = x ∨ z ∈ l
  | [] => by simp [insU]
  | y :: l => by
    unfold insU
    split
    · simp
    · split
      · rename_i h; subst h; simp
      · rw [List.mem_cons, mem_insU, List.mem_cons]
        constructor
        · rintro (h | h | h)
          · exact .inr (.inl h)
          · exact .inl h
          · exact .inr (.inr h)
        · rintro (h | h | h)
          · exact .inr (.inl h)
          · exact .inl h
          · exact .inr (.inr h)
theorem mem_uniq {lt : α → α → Bool} {z : α} : ∀ {l : List α}, z ∈ uniq lt l ↔ z ∈ l
  | [] => by simp [uniq]
  | y :: l => by
    show z ∈ insU lt y (uniq lt l) ↔ _
    rw [mem_insU, mem_uniq, List.mem_cons]
structure Sto (lt : α → α → Bool) : Prop where
  irr : ∀ a, lt a a = false
  tr : ∀ a b c, lt a b = true → lt b c = true → lt a c = true
  tot : ∀ a b, lt a b = true ∨ a = b ∨ lt b a = true
theorem insU_up {lt : α → α → Bool} (O : Sto lt) {x : α} : ∀ {l : List α}, l.Pairwise (fun a b => lt a b = true) → (insU lt x l).Pairwise fun a b => lt a b = true
  | [], _ => by simp [insU]
  | y :: l, h => by
    unfold insU
    split
    · rename_i h1
      refine .cons (fun z hz => ?_) h
      rcases List.mem_cons.mp hz with rfl | hz
      · exact h1
      · exact O.tr _ _ _ h1 (List.rel_of_pairwise_cons h hz)
    · split
      · exact h
      · rename_i h1 h2
        refine .cons (fun z hz => ?_) (insU_up O h.of_cons)
        rcases mem_insU.mp hz with rfl | hz
        · rcases O.tot z y with e | e | e
          · exact absurd e h1
          · exact absurd e h2
          · exact e
        · exact List.rel_of_pairwise_cons h hz
theorem uniq_up {lt : α → α → Bool} (O : Sto lt) : ∀ l : List α, (uniq lt l).Pairwise fun a b => lt a b = true
  | [] => .nil
  | y :: l => insU_up O (uniq_up O l)
theorem up_eq {lt : α → α → Bool} (O : Sto lt) : ∀ {l m : List α}, l.Pairwise (fun a b => lt a b = true) → m.Pairwise (fun a b => lt a b = true) → (∀ z, z ∈ l ↔ z ∈ m) → l = m
  | [], [], _, _, _ => rfl
  | [], b :: m, _, _, h => absurd ((h b).mpr List.mem_cons_self) List.not_mem_nil
  | a :: l, [], _, _, h => absurd ((h a).mp List.mem_cons_self) List.not_mem_nil
  | a :: l, b :: m, h1, h2, h => by
    have ne : ∀ {c d : α}, lt c d = true → c ≠ d := fun e f => by rw [f, O.irr] at e; cases e
    have e : a = b := by
      rcases List.mem_cons.mp ((h a).mp List.mem_cons_self) with e | e
      · exact e
      · rcases List.mem_cons.mp ((h b).mpr List.mem_cons_self) with f | f
        · exact f.symm
        · have := O.tr _ _ _ (List.rel_of_pairwise_cons h1 f) (List.rel_of_pairwise_cons h2 e)
          rw [O.irr] at this; cases this
    subst e
    rw [up_eq O h1.of_cons h2.of_cons fun z => ⟨fun hz => ?_, fun hz => ?_⟩]
    · rcases List.mem_cons.mp ((h z).mp (List.mem_cons_of_mem _ hz)) with f | f
      · exact absurd f.symm (ne (List.rel_of_pairwise_cons h1 hz))
      · exact f
    · rcases List.mem_cons.mp ((h z).mpr (List.mem_cons_of_mem _ hz)) with f | f
      · exact absurd f.symm (ne (List.rel_of_pairwise_cons h2 hz))
      · exact f
theorem uniq_eq {lt : α → α → Bool} (O : Sto lt) {l m : List α} (h : m.Pairwise fun a b => lt a b = true) (hm : ∀ z, z ∈ m ↔ z ∈ l) : m = uniq lt l := up_eq O h (uniq_up O l) fun z => by rw [hm, mem_uniq]
end
abbrev ltI (a b : Int) : Bool := decide (a < b)
theorem stoI : Sto ltI := ⟨fun a => by simp, fun a b c h1 h2 => by simp only [ltI, decide_eq_true_eq] at *; omega, fun a b => by simp only [ltI, decide_eq_true_eq]; omega⟩
abbrev uniI (ns : List Int) : List Int := uniq ltI ns
section
variable {P : Program} {w : World} {A : Around} {E : Value → Shared → Prop} {s : Shared}
theorem call_set_lstI {l : Addr} {items : Array Value} (ns : List Int) {Q : Value → Shared → Prop} (hh : A.handled = none) (hl : s.heap.IsList l items) (hit : IntsAre items.toList ns) (hb : ns.length + 1 < scanBound)
    (h : ∀ (h' : Heap) (tk c : Nat), SetR w h' s.heap.objs.size (fun j => decide (j ∈ ns)) c → c ≤ ns.length → (∀ b o, s.heap.get? b = some o → h'.get? b = some o) → Q (.ref s.heap.objs.size) { s with heap := h', toks := tk }) :
    wpAny (model P w) A (call (.type "set") [.ref l]) Q E s := by
  have hisz : items.size = ns.length := by
    have q := IntsAre.length hit
    rw [Array.length_toList] at q
    exact q
  obtain ⟨c, tl, hmro⟩ := F.called_set.mro
  have hmade := F.called_set.made
  have hsub := F.called_set.sub
  refine wpAny_call (codeAny_of_tree ?_)
  show wpAny _ _ (callAny (.type "set") _) _ _ _
  refine wpAny_pure ⟨Code.quiet_builtin _ (by decide +kernel), codeAny_builtin F.entry_type_call ?_⟩
  rw [Around.under_plain (weight_type_call_type "set" [.ref l] []) rfl]
  have h1 := F.called_set.notType
  have h2 := F.called_set.canCreate
  have hct := F.typeCall_set_1 (.ref l)
  repeat (any_goals (first | assumption | wp_step))
  have G : Addr := s.heap.objs.size
  refine codeAny_mono (code_set_led1 (.ref l) (E := E) (Q₁ := fun obj s₁ => obj = .ref s.heap.objs.size ∧ s₁ = { s with heap := s.heap.push { cls := .type "set", dict := none, data := .set #[] 0 (.fresh 0 0 (!w.params.followText "set-order")) } }) ⟨rfl, rfl⟩) fun r s₁ hr => ?_
  cases r with
  | error e => exact hr
  | ok fl =>
    cases fl with
    | ret obj =>
      obtain ⟨rfl, rfl⟩ := hr
      have hS : (s.heap.push { cls := .type "set", dict := none, data := .set #[] 0 (.fresh 0 0 (!w.params.followText "set-order")) }).get? s.heap.objs.size = some { cls := .type "set", dict := none, data := .set #[] 0 (.fresh 0 0 (!w.params.followText "set-order")) } := Heap.get?_push_size _ rfl
      have hT : Shared.TypeIs { s with heap := s.heap.push { cls := .type "set", dict := none, data := .set #[] 0 (.fresh 0 0 (!w.params.followText "set-order")) } } (.ref s.heap.objs.size) "set" := ⟨_, hS, rfl⟩
      have hli := F.called_set.init.lookup
      have hbi := F.called_set.init.bind (.ref s.heap.objs.size)
      repeat (any_goals (first | assumption | wp_step))
      refine codeAny_mono (codeAny_call_builtin (R := wants (fun r s₂ => r = .none ∧ ∃ h' tk c, s₂ = { s with heap := h', toks := tk } ∧ SetR w h' s.heap.objs.size (fun j => decide (j ∈ ns)) c ∧ c ≤ ns.length ∧
          (∀ b o, s.heap.get? b = some o → h'.get? b = some o)) E) F.called_set.init.plain F.entry_set_init (check_set_init_1 hT ?_)) fun r₂ s₂ hr₂ => ?_
      · obtain ⟨ol, hol, hcl, nl, hdl⟩ := hl
        obtain ⟨ocls, odict, odata, oslots⟩ := ol
        simp only at hcl hdl
        subst hcl; subst hdl
        have hol' : (s.heap.push { cls := .type "set", dict := none, data := .set #[] 0 (.fresh 0 0 (!w.params.followText "set-order")) }).get? l = some { cls := .type "list", dict := odict, data := .seq items nl, slots := oslots } := Heap.get?_push_of_some _ hol
        have hsls := F.sub_list_set
        have hslf := F.sub_list_frozenset
        have hne : (Value.type "list" == Value.type "dict") = false := by decide
        have hl1 : (s.heap.push { cls := .type "set", dict := none, data := .set #[] 0 (.fresh 0 0 (!w.params.followText "set-order")) }).IsList l items := ⟨_, hol', rfl, nl, rfl⟩
        unfold Builtin.«set.__init__» noKeywords Builtin.Frozenset.updateFrom
        generalize hPI : pyIter = PI
        wp_walk
        subst hPI
        refine wpAny_pyIter_list hl1 ?_
        refine wpAny_bind (wpAny_runValue ?_)
        have hlS : l < s.heap.objs.size := Heap.lt_size hol
        have hh3 : A.in1.in1.in1.handled = none := by simp [hh]
        have hneI : l ≠ (s.heap.push { cls := .type "set", dict := none, data := .set #[] 0 (.fresh 0 0 (!w.params.followText "set-order")) }).objs.size := by
          rw [Heap.size_push]; exact Nat.ne_of_lt (Nat.lt_succ_of_lt hlS)
        have hSf : s.heap.objs.size ∉ [(s.heap.push { cls := .type "set", dict := none, data := .set #[] 0 (.fresh 0 0 (!w.params.followText "set-order")) }).objs.size, l] := by
          rw [Heap.size_push]; simp only [List.mem_cons, List.mem_singleton, List.not_mem_nil, or_false, not_or]
          exact ⟨Nat.ne_of_lt (Nat.lt_succ_self _), Nat.ne_of_gt hlS⟩
        have hval : ∀ (i : Nat) (v : Value), items[i]? = some v → ∃ k t, ns[i]? = some k ∧ v = .int k t := fun i v hv => by
          have hi : i < ns.length := by rw [← hisz]; exact (Array.getElem?_eq_some_iff.mp hv).1
          obtain ⟨t, e⟩ := PyProof.Rows.IntsAre.int_at hit i v (by rw [Array.getElem?_toList]; exact hv)
          refine ⟨ns[i], t, List.getElem?_eq_getElem hi, ?_⟩
          rw [e, List.getD_eq_getElem?_getD, List.getElem?_eq_getElem hi] <;> rfl
        refine set_update_ints ((Walks.list hh3 _ l hneI items).toS) s.heap.objs.size
          hSf ns hisz hb hval (items.size - 0) 0 _ (by omega) (Nat.zero_le _)
          ⟨⟨_, Heap.get?_push_size _ rfl, rfl, rfl⟩, (hl1.push _)⟩ ?hS0 ?hR
        case hS0 =>
          have hget : ((s.heap.push { cls := .type "set", dict := none, data := .set #[] 0 (.fresh 0 0 (!w.params.followText "set-order")) }).push { cls := .type "list_iterator", data := .fields #[.ref l, .int 0 0] }).get? s.heap.objs.size
              = some { cls := .type "set", dict := none, data := .set #[] 0 (.fresh 0 0 (!w.params.followText "set-order")) } := Heap.get?_push_of_some _ hS
          exact ⟨0, Nat.le_refl 0, setR_new_at hget⟩
        case hR =>
          intro s' c' hm hc' hS'
          obtain ⟨h', g2, d', tk', os'⟩ := s'
          have eg : g2 = s.gens := hm.gens
          have ed : d' = s.drawn := hm.drawn
          have eo : os' = s.os := hm.os
          subst eg; subst ed; subst eo
          show wpAny _ _ _ _ _ _
          refine wpAny_pure ?_
          show wpAny _ _ (ret Value.none) _ _ _
          rw [hisz] at hc'
          refine wpAny_pure ⟨rfl, h', tk', c', rfl, hS', hc', fun b o e => ?_⟩
          have hb0 : b < s.heap.objs.size := Heap.lt_size e
          have hb1 : b ≠ s.heap.objs.size := Nat.ne_of_lt hb0
          have hb2 : b ≠ (s.heap.push { cls := .type "set", dict := none, data := .set #[] 0 (.fresh 0 0 (!w.params.followText "set-order")) }).objs.size := by
            rw [Heap.size_push]; exact Nat.ne_of_lt (Nat.lt_succ_of_lt hb0)
          exact hm.heap b o (by simp only [List.mem_cons, List.mem_singleton, List.not_mem_nil, or_false, not_or]; exact ⟨hb1, hb2⟩) (Heap.get?_push_of_some _ (Heap.get?_push_of_some _ e))
      · cases r₂ with
        | error e => exact hr₂
        | ok fl₂ =>
          cases fl₂ with
          | ret r =>
            obtain ⟨rfl, h', tk, c', rfl, hS', hc', hk'⟩ := hr₂
            repeat (any_goals (first | assumption | wp_step))
            exact h _ _ _ hS' hc' hk'
          | _ => exact hr₂.elim
    | _ => exact hr.elim
end
def rSetI (K : PySem.W.Frag) (w : World) : List V → Hp → VK → Prop := fun xs H Q => ∃ (l : Addr) (ns : List Int), xs = [V.ref l] ∧ (SqL K H l (ns.map V.int) ∨ SqT K H l (ns.map V.int)) ∧ ns.length < 1000 ∧
  ∀ p n, n ≤ ns.length → H p = none → Q (.ref p) (upd H p (SetO w p (fun j => decide (j ∈ ns)) n))
theorem cr_setI {X : Cx} (hc : X.calm = true) : CallR X (.type "set") (rSetI X.K X.w) := by
  intro pins s σ H xs us Q I r h
  obtain ⟨l, ns, rfl, hl, hz, q⟩ := h
  rw [Vals.ref1 r]
  have hn : H s.heap.objs.size = none := I.hok.fresh (Nat.le_refl _)
  have hb : ns.length + 1 < scanBound := by unfold scanBound; omega
  rcases hl with hl | hl
  · obtain ⟨its, rv, pl, _⟩ := I.list hl
    exact call_set_lstI ns (I.ok.hd hc) pl.isList (by simpa using rv.ints) hb fun h' tk c R hc' k =>
      ⟨.ref s.heap.objs.size, upd H s.heap.objs.size (SetO X.w s.heap.objs.size _ c), I.laid (t' := tk) k (Nat.le_refl _) (setO_new R), rfl, q _ c hc' hn⟩
  · obtain ⟨its, rv, pl, _⟩ := I.tuple hl
    exact call_set_tupI ns (I.ok.hd hc) pl (by simpa using rv.ints) hb fun h' tk c R hc' k =>
      ⟨.ref s.heap.objs.size, upd H s.heap.objs.size (SetO X.w s.heap.objs.size _ c), I.laid (t' := tk) k (Nat.le_refl _) (setO_new R), rfl, q _ c hc' hn⟩
def rSs (K : PySem.W.Frag) (w : World) : List V → Hp → VK → Prop := fun vs H Q => rSetI K w vs H fun v H2 => rSortedSet w [v] H2 Q
def gSs : List Vl → Vl → (Vl → Prop) → Prop := fun st d Q => ∃ ns : List Int, (pyO st d = some (.list (ns.map .int)) ∨ pyO st d = some (.tuple (ns.map .int))) ∧ ns.length < 64 ∧ Q (.ow ((uniI ns).map .int))
theorem sortedSet_one {ns ns' : List Int} (h : ns'.Pairwise (· < ·)) (hm : ∀ k : Int, k ∈ ns' ↔ decide (k ∈ ns) = true) : ns' = uniI ns :=
  uniq_eq stoI (h.imp fun z => decide_eq_true z) fun z => by rw [hm, decide_eq_true_eq]
section
variable {X : Cx} {B : Ba} {K : PySem.W.Frag} {lk : List Nat} {e : Expr} {es : List Expr} {t : DTA} {p p2 pos pos2 : Pos}
theorem gSs_ok {w : World} : F1Ok K B gSs (rSs K w) := fun lv st tm σ tv H d v Q0 Q F O R q k => by
  obtain ⟨ns, e, hz, q⟩ := q
  have fin : ∀ a, (SqL K H a (ns.map V.int) ∨ SqT K H a (ns.map V.int)) → rSs K w [V.ref a] H Q := fun a ha => by
    refine ⟨a, ns, rfl, ha, by omega, fun b n hn hb => ?_⟩
    refine ⟨b, _, n, rfl, upd_same, by omega, fun ns' p hs hm hl hp => ?_⟩
    obtain rfl := sortedSet_one hs hm
    exact k _ _ _ q ⟨F, _, (R.new hb).pop.newLst hp (RpA.ofInts _)⟩
  rcases e with e | e
  · obtain ⟨a, vs, rfl, h, r⟩ := R.lst e
    obtain rfl := r.ints
    exact fin a (.inl h)
  · obtain ⟨a, vs, rfl, h, r⟩ := R.tup e
    obtain rfl := r.ints
    exact fin a (.inr h)
theorem boot_set : bootBuiltins "set" = some (.type "set") := by rfl
theorem de_sortedSet (hc : X.calm = true) (hg : Gl X "sorted") (hm : X.mg "sorted" = none) (hg2 : Gl X "set") (hm2 : X.mg "set" = none) (ha : DA X B lk [e] t)
    (he : starEach [e] X.env = (false, eval e X.env) :: starEach [] X.env := by rfl) (hpl : (backTo pos2 (starEach [] X.env)).any (·.1) = false := by rfl)
    (he2 : starEach [.Call (.Name "set" p2) [e] [] pos2] X.env = (false, eval (.Call (.Name "set" p2) [e] [] pos2) X.env) :: starEach [] X.env := by rfl) (hpl2 : (backTo pos (starEach [] X.env)).any (·.1) = false := by rfl) :
    DE X B lk (.Call (.Name "sorted" p) [.Call (.Name "set" p2) [e] [] pos2] [] pos) (cFn (g1 gSs) t) :=
  PE.weak (pe_callB (cr_sortedSet hc) hg hm boot_sorted (pa_cons (pe_callTy (cr_setI hc) hg2 hm2 boot_set ha (he := he) (hpl := hpl)) pa_nil) (he := he2) (hpl := hpl2)) fun σ H Q h => by
    have := fn_weak (gSs_ok (w := X.w)).ok h
    exact this
end
theorem s_ss {st : List Vl} {v : Vl} {QF : Vl → Prop} (ns : List Int) (e : pyO st v = some (.list (ns.map .int)) ∨ pyO st v = some (.tuple (ns.map .int))) (hz : ns.length < 64) (h : QF (.ow ((uniI ns).map .int))) : gSs st v QF := ⟨ns, e, hz, h⟩
end DL

/-! list.index of tuples, tuple.index of numbers. -/
namespace DL
open PySem PySem.Spec PyProof.Rows L2
open AutoSeq1 (wpAny_loadPart')
theorem lay_ints : ∀ xs : List Int, PyData.canLayAll0 (xs.map PyData.int) = true
  | [] => by simp [PyData.canLayAll0]
  | x :: xs => by simp [PyData.canLayAll0, PyData.canLay0, lay_ints xs]
theorem lay_pt (xs : List Int) : (pt xs).canLay0 = true := by
  have := lay_ints xs
  simp [pt, PyData.canLay0, this]
theorem lay_pts : ∀ ps : List (List Int), PyData.canLayAll0 (ps.map pt) = true
  | [] => by simp [PyData.canLayAll0]
  | p :: ps => by simp [PyData.canLayAll0, lay_pt p, lay_pts ps]
theorem nd_ints (xs : List Int) : ndA (xs.map PyData.int) = true := dep_ndA (k := 60) (by rw [List.all_map]; exact List.all_eq_true.mpr fun x _ => rfl)
theorem nd_pts (ps : List (List Int)) : ndA (ps.map pt) = true := dep_ndA (k := 60) (by rw [List.all_map]; exact List.all_eq_true.mpr fun x _ => dep_pt60 x)
def cont (tup : Bool) (ds : List PyData) : PyData := if tup then .tuple ds else .list ds
def IxOk (ds : List PyData) (d : PyData) (j : Nat) : Prop := PyData.canLayAll0 ds = true ∧ d.canLay0 = true ∧ dep 60 d = true ∧ ndA ds = true ∧ (∃ z, ds[j]? = some z ∧ PyData.eqv z d = true) ∧ ∀ (m : Nat) (z' : PyData), m < j → ds[m]? = some z' → PyData.eqv z' d = false
def rIxQ (K : PySem.W.Frag) (tup : Bool) : V → List V → Hp → VK → Prop := fun x xs H Q => ∃ (a : Addr) (y : V) (d : PyData) (ds : List PyData) (j : Nat), x = V.ref a ∧ xs = [y] ∧ Dq K H (V.ref a) (cont tup ds) ∧ Dq K H y d ∧ IxOk ds d j ∧ Q (.int (j : Nat)) H
section
variable {X : Cx}
theorem mt_ixQL (hu : Un0 X) : MtR X "list.index" (rIxQ X.K false) := by
  intro pins s σ H x xs v us Q I rx rxs h
  obtain ⟨a, y, d, ds, j, rfl, rfl, hl, hy, ⟨sl, sd, dd0, nn, ⟨z, hz, hzj⟩, hno⟩, q⟩ := h
  have hl : Dq X.K H (V.ref a) (.list ds) := hl
  have hu : X.A.units + 100 < cLine := hu
  cases rx
  cases rxs with
  | cons ry rt =>
    rename_i uy ut
    cases rt
    obtain ⟨bs, r1⟩ := Dq.reads I d y uy (dep_nd _ _ dd0) hy ry
    have hroom : X.A.units + 1 + min (PyData.depthAll ds) d.depth < cLine := by
      have := (dep_ok 60 d dd0).2
      have : min (PyData.depthAll ds) d.depth ≤ d.depth := Nat.min_le_right _ _
      omega
    cases hl with
    | lst hs ha =>
      obtain ⟨its, rv, ⟨⟨cls, dd, data, sls⟩, n, ho, hc, hdn, hdt⟩, hlen⟩ := I.list hs
      simp only at hc hdt
      subst hc hdt
      obtain ⟨as, h4⟩ := Dq.readsAll I ds _ its nn ha rv
      have hmap : its.map (SeqAt.readOf s.heap) = ds := SeqAt.readsAll_map ds its as sl h4
      have hn : its.length = ds.length := by rw [← hmap, List.length_map]
      have hvl := rv.length
      have hsl := sizeLine_eq
      obtain ⟨hjd, _⟩ := List.getElem?_eq_some_iff.mp hz
      have hjl : j < its.length := by omega
      have hj : j < its.toArray.size := by simpa using hjl
      have at_ : ∀ (m : Nat) (hm : m < its.toArray.size) (z' : PyData), ds[m]? = some z' → SeqAt.readOf s.heap its.toArray[m] = z' := by
        intro m hm z' hz'
        have hml : m < its.length := by simpa using hm
        rw [← hmap, List.getElem?_map, List.getElem?_eq_getElem hml] at hz'
        have e1 : SeqAt.readOf s.heap its[m] = z' := Option.some.inj (show some (SeqAt.readOf s.heap its[m]) = some z' from hz')
        simpa using e1
      refine call_meets PySem.F.slot_list_index ⟨_, ho, rfl⟩ PySem.F.entry_list_index (PySem.F.args_list_index_2 _ _)
        (SeqAt.list_indexAt a its.toArray n dd sls uy (fun u => PyData.eqv (SeqAt.readOf s.heap u) d) j hj (by omega) ?_ ?_) ⟨ho, SeqAt.items_eqAt (vs := its.toArray) (show ReadsAll s.heap its.toArray.toList ds as from h4) r1 sl sd hroom, ?_⟩
      · show PyData.eqv (SeqAt.readOf s.heap its.toArray[j]) d = true
        rw [at_ j hj z hz]
        exact hzj
      · intro m hm hmj
        have hmd : m < ds.length := by omega
        have hz' : ds[m]? = some ds[m] := List.getElem?_eq_getElem hmd
        show PyData.eqv (SeqAt.readOf s.heap its.toArray[m]) d = false
        rw [at_ m hm _ hz']
        exact hno m _ hmj hz'
      · exact ⟨.int (j : Nat), H, I.tok _, ⟨_, rfl⟩, q⟩
theorem mt_ixQT (hu : Un0 X) : MtR X "tuple.index" (rIxQ X.K true) := by
  intro pins s σ H x xs v us Q I rx rxs h
  obtain ⟨a, y, d, ds, j, rfl, rfl, hl, hy, ⟨sl, sd, dd0, nn, ⟨z, hz, hzj⟩, hno⟩, q⟩ := h
  have hl : Dq X.K H (V.ref a) (.tuple ds) := hl
  have hu : X.A.units + 100 < cLine := hu
  cases rx
  cases rxs with
  | cons ry rt =>
    rename_i uy ut
    cases rt
    obtain ⟨bs, r1⟩ := Dq.reads I d y uy (dep_nd _ _ dd0) hy ry
    have hroom : X.A.units + 1 + min (PyData.depthAll ds) d.depth < cLine := by
      have := (dep_ok 60 d dd0).2
      have : min (PyData.depthAll ds) d.depth ≤ d.depth := Nat.min_le_right _ _
      omega
    cases hl with
    | tup hs ha =>
      obtain ⟨its, rv, pl, hlen⟩ := I.tuple hs
      obtain ⟨⟨cls, dd, data, sls⟩, ho, hc, n, hdt⟩ := pl
      simp only at hc hdt
      subst hc hdt
      obtain ⟨as, h4⟩ := Dq.readsAll I ds _ its nn ha rv
      have hmap : its.map (SeqAt.readOf s.heap) = ds := SeqAt.readsAll_map ds its as sl h4
      have hn : its.length = ds.length := by rw [← hmap, List.length_map]
      obtain ⟨hjd, _⟩ := List.getElem?_eq_some_iff.mp hz
      have hjl : j < its.length := by omega
      have hj : j < its.toArray.size := by simpa using hjl
      have at_ : ∀ (m : Nat) (hm : m < its.toArray.size) (z' : PyData), ds[m]? = some z' → SeqAt.readOf s.heap its.toArray[m] = z' := by
        intro m hm z' hz'
        have hml : m < its.length := by simpa using hm
        rw [← hmap, List.getElem?_map, List.getElem?_eq_getElem hml] at hz'
        have e1 : SeqAt.readOf s.heap its[m] = z' := Option.some.inj (show some (SeqAt.readOf s.heap its[m]) = some z' from hz')
        simpa using e1
      refine call_meets PySem.F.slot_tuple_index ⟨_, ho, rfl⟩ PySem.F.entry_tuple_index (PySem.F.args_tuple_index_2 _ _)
        (TI.tuple_indexAt a its.toArray n dd sls uy (fun u => PyData.eqv (SeqAt.readOf s.heap u) d) j hj ?_ ?_) ⟨ho, SeqAt.items_eqAt (vs := its.toArray) (show ReadsAll s.heap its.toArray.toList ds as from h4) r1 sl sd hroom, ?_⟩
      · show PyData.eqv (SeqAt.readOf s.heap its.toArray[j]) d = true
        rw [at_ j hj z hz]
        exact hzj
      · intro m hm hmj
        have hmd : m < ds.length := by omega
        have hz' : ds[m]? = some ds[m] := List.getElem?_eq_getElem hmd
        show PyData.eqv (SeqAt.readOf s.heap its.toArray[m]) d = false
        rw [at_ m hm _ hz']
        exact hno m _ hmj hz'
      · exact ⟨.int (j : Nat), H, I.tok _, ⟨_, rfl⟩, q⟩
end
def gIxQ (tup : Bool) : List Vl → Vl → Vl → (Vl → List Vl → Prop) → Prop := fun st d y Q => ∃ ds e j, pyO st d = some (cont tup ds) ∧ pyO st y = some e ∧ IxOk ds e j ∧ Q (.fr (.int (j : Nat))) st
def cIxQ (tup : Bool) (to te : DT) : DT := fun st Q => to st fun d st1 => (∃ ds, pyO st1 d = some (cont tup ds)) ∧ te st1 fun y st2 => gIxQ tup st2 d y Q
section
variable {X : Cx} {B : Ba} {lk : List Nat} {o e : Expr} {to te : DT} {apos cpos : Pos}
theorem de_ixPt (hu : Un0 X) (ho : DE X B lk o to) (he : DE X B lk e te) (hbase : attributeBase o "index" X.env (eval o X.env) = eval o X.env := by rfl)
    (hfew : ((backTo cpos (starEach [e] X.env)).all (fun x => !x.1) && (backToKw cpos (keywordEach [] X.env)).all (fun x => x.1.isSome)
      && decide ([e].length + ([] : List Keyword).length + (if ([] : List Keyword).isEmpty then 0 else 1) < 30)) = true := by rfl)
    (hline : (apos.endLine == cpos.line) = true := by rfl) (hs : starEach [e] X.env = (false, eval e X.env) :: starEach [] X.env := by rfl) (hplain : (backTo cpos (starEach [] X.env)).any (·.1) = false := by rfl) :
    DE X B lk (.Call (.Attribute o "index" apos) [e] [] cpos) (cIxQ false to te) :=
  PE.weak (pe_bm PySem.F.plainAttrs_list PySem.F.slot_list_index PySem.F.type_list_index (mt_ixQL hu) ho (pa_cons he pa_nil hs) hbase hfew hline hs hplain) fun σ H Q ⟨lv, st, tm, tv, Q0, L, R, h, k⟩ => by
    refine ⟨lv, st, tm, tv, _, L, R, h, fun d st1 v H1 q1 R1 => ?_⟩
    obtain ⟨⟨ds, e1⟩, q1⟩ := q1
    have ty : tyV X.K "list" v H1 := by
      obtain ⟨F, O, R2⟩ := R1
      obtain ⟨a, vs, rfl, h, r⟩ := R2.lst e1
      exact .inl ⟨rfl, vs, h⟩
    refine ⟨ty, lv, st1, d :: tm, v :: tv, _, L, R1, q1, fun y st2 u H2 q2 R2 => ?_⟩
    obtain ⟨ds, e, j, e2, e3, ok, q⟩ := q2
    obtain ⟨F, O, R3⟩ := R2.pop
    obtain ⟨a, vs, rfl, hl, r⟩ := R3.lst (show pyO st2 d = some (.list ds) from e2)
    exact ⟨a, u, e, ds, j, rfl, rfl, R2.pop.dp e2, R2.dp e3, ok, k _ _ _ _ q ⟨F, O, R3.pop.push (d := .fr (.int _)) (.int _)⟩⟩
/-! exact tuples: their objects bear no dict -/
abbrev xt (ds : List PyData) : PyData := .dict [(.none, .tuple ds)]
def tEx : V → Hp → Prop := fun x H => ∃ (a : Addr) (o : Obj) (xs : List V), x = .ref a ∧ H a = some (.frz o (.tup xs)) ∧ o.dict = none
def tBME (r : V → List V → Hp → VK → Prop) (to : TE) (t : TA) : TE := fun σ H Q => to σ H fun x H1 => tEx x H1 ∧ t σ H1 fun xs H2 => r x xs H2 Q
theorem pe_bmE {es : List Expr} {t : TA} {to : TE} {name : Str} {id : String} {r : V → List V → Hp → VK → Prop} (pa : PlainAttrs "tuple") (slot : Slot "tuple" name id) (hty : typeOf (.builtin id) = pure (.type "method_descriptor")) (hm : MtR X id r) (ho : PE X o to) (ha : PA X (e :: es) t)
    (hbase : attributeBase o name X.env (eval o X.env) = eval o X.env := by rfl)
    (hfew : ((backTo cpos (starEach (e :: es) X.env)).all (fun x => !x.1) && (backToKw cpos (keywordEach [] X.env)).all (fun x => x.1.isSome)
      && decide ((e :: es).length + ([] : List Keyword).length + (if ([] : List Keyword).isEmpty then 0 else 1) < 30)) = true := by rfl)
    (hline : (apos.endLine == cpos.line) = true := by rfl) (hs : starEach (e :: es) X.env = (false, eval e X.env) :: starEach es X.env := by rfl) (hplain : (backTo cpos (starEach es X.env)).any (·.1) = false := by rfl) :
    PE X (.Call (.Attribute o name apos) (e :: es) [] cpos) (tBME r to t) := by
  refine ⟨fun pins s σ H Q I h => ?_⟩
  refine wpAny_Call_method_late hbase hfew hline rfl (thn (ho.run pins s σ H _ I h) fun v s1 ⟨x, H1, I1, r1, ty, q1⟩ => ?_)
  obtain ⟨a, ob, xs, rfl, h1, h2⟩ := ty
  have r2 := r1
  cases r1
  obtain ⟨g1, z, its, rv, o', g2, g3, g4⟩ := I1.hok a _ h1
  rw [g1] at g2
  cases g2
  refine ⟨"tuple", id, pa, slot, hty, ⟨ob, g1, g3⟩, fun a e => ?_, ?_⟩
  · cases e
    exact ⟨ob, g1, h2⟩
  · have hA := ha.run cpos pins s1 σ H1 _ I1 q1
    rw [hs] at hA ⊢
    refine Calls.callWith_builtin (by show (false || (backTo cpos (starEach es X.env)).any (·.1)) = false; rw [hplain] <;> rfl) (Calls.evalArgs_plain ?_)
    exact thn hA fun us s2 ⟨vs, H2, I2, r3, q2⟩ => hm pins s2 σ H2 _ vs _ us Q I2 r2 r3 q2
def gIxE : List Vl → Vl → Vl → (Vl → List Vl → Prop) → Prop := fun st d y Q => ∃ ds e j, d = .fr (xt ds) ∧ pyO st y = some e ∧ IxOk ds e j ∧ Q (.fr (.int (j : Nat))) st
def cIxE (to te : DT) : DT := fun st Q => to st fun d st1 => (∃ ds, d = .fr (xt ds)) ∧ te st1 fun y st2 => gIxE st2 d y Q
theorem de_ixE (hu : Un0 X) (ho : DE X B lk o to) (he : DE X B lk e te) (hbase : attributeBase o "index" X.env (eval o X.env) = eval o X.env := by rfl)
    (hfew : ((backTo cpos (starEach [e] X.env)).all (fun x => !x.1) && (backToKw cpos (keywordEach [] X.env)).all (fun x => x.1.isSome)
      && decide ([e].length + ([] : List Keyword).length + (if ([] : List Keyword).isEmpty then 0 else 1) < 30)) = true := by rfl)
    (hline : (apos.endLine == cpos.line) = true := by rfl) (hs : starEach [e] X.env = (false, eval e X.env) :: starEach [] X.env := by rfl) (hplain : (backTo cpos (starEach [] X.env)).any (·.1) = false := by rfl) :
    DE X B lk (.Call (.Attribute o "index" apos) [e] [] cpos) (cIxE to te) :=
  PE.weak (pe_bmE PySem.F.plainAttrs_tuple PySem.F.slot_tuple_index PySem.F.type_tuple_index (mt_ixQT hu) ho (pa_cons he pa_nil hs) hbase hfew hline hs hplain) fun σ H Q ⟨lv, st, tm, tv, Q0, L, R, h, k⟩ => by
    refine ⟨lv, st, tm, tv, _, L, R, h, fun d st1 v H1 q1 R1 => ?_⟩
    obtain ⟨⟨ds, rfl⟩, q1⟩ := q1
    have ty : tEx v H1 := by
      obtain ⟨F, O, R2⟩ := R1
      have h : Rp X.K F H1 v (xt ds) := R2.top (fun i z => by cases z)
      cases h with
      | xtp h1 h2 r => exact ⟨_, _, _, rfl, h1, h2⟩
    refine ⟨ty, lv, st1, _ :: tm, v :: tv, _, L, R1, q1, fun y st2 u H2 q2 R2 => ?_⟩
    obtain ⟨ds', e, j, e2, e3, ok, q⟩ := q2
    obtain rfl : ds = ds' := by cases e2; rfl
    obtain ⟨F, O, R3⟩ := R2.pop
    have h : Rp X.K F H2 v (xt ds) := R3.top (fun i z => by cases z)
    cases h with
    | xtp h1 h2 r => exact ⟨_, u, e, ds, j, rfl, rfl, .tup (.inl (.inr ⟨_, h1⟩)) (RpA.dp _ _ r), R2.dp e3, ok, k _ _ _ _ q ⟨F, O, R3.pop.push (d := .fr (.int _)) (.int _)⟩⟩
/-! an exact tuple made of a list -/
theorem call_tuple_ofE : CallR X (.type "tuple") (fun xs H Q => ∃ p ys, xs = [.ref p] ∧ SqL X.K H p ys ∧ ∀ l o, H l = none → o.dict = none → Q (.ref l) (upd H l (.frz o (.tup ys)))) := by
  intro pins s σ H xs us Q I r h
  obtain ⟨p, ys, rfl, hq, q⟩ := h
  obtain ⟨u, rfl, rx⟩ := vals1 r
  cases rx
  obtain ⟨its, r', pl, hz⟩ := I.list hq
  have hlen := r'.length
  refine call_tuple_list pl.isList (fun h' kp => ?_) (by simp only [List.size_toArray] <;> omega)
  have I1 : Inv X pins σ H { s with heap := h' } := I.kept (t' := s.toks) kp
  have I2 : Inv X pins σ (upd H h'.objs.size (.frz { cls := .type "tuple", data := .seq its.toArray } (.tup ys))) { s with heap := h'.push { cls := .type "tuple", data := .seq its.toArray } } :=
    I1.laid (t' := s.toks) (fun b o e => Heap.get?_push_of_some _ e) (Nat.le_refl _) (show ObjOk X.prog X.w _ _ _ (.frz _ (.tup ys)) from ⟨Heap.get?_push_size _ rfl, hz, its, r', IsTup.new _ _⟩)
  exact ⟨.ref h'.objs.size, _, I2, rfl, q _ _ (I1.hok.fresh (Nat.le_refl _)) rfl⟩
theorem RelX.newXt {K : PySem.W.Frag} {lv : List (Nat × V)} {st tm : List Vl} {σ : L2.St} {tv : List V} {H : Hp} {F : Addr → Prop} {O : Addr → Option Ow} {p : Addr} {ob : Obj} {vs : List V} {ds : List PyData} (R : RelX K B lv st tm σ tv H F O) (hp : H p = none) (ho : ob.dict = none) (r : RpA K F H vs ds) : RelX K B lv st (.fr (xt ds) :: tm) σ (.ref p :: tv) (upd H p (.frz ob (.tup vs))) F O :=
  (R.new hp).push (Rp.xtp upd_same ho (r.keep (fun _ h => h) (fun b u e _ => upd_le hp b u e)))
def gTplE : List Vl → Vl → (Vl → Prop) → Prop := fun st d Q => match pyO st d with
  | some (.list xs) => Q (.fr (xt xs))
  | _ => False
theorem gTplE_ok {K : PySem.W.Frag} : F1Ok K B gTplE (fun xs H Q => ∃ p ys, xs = [.ref p] ∧ SqL K H p ys ∧ ∀ l o, H l = none → o.dict = none → Q (.ref l) (upd H l (.frz o (.tup ys)))) := fun lv st tm σ tv H d v Q0 Q F O R q k => by
  unfold gTplE at q
  split at q
  · rename_i xs e
    obtain ⟨a, vs, rfl, h, r⟩ := R.lst e
    exact ⟨_, _, rfl, h, fun l o hl ho => k _ _ _ q ⟨F, _, R.pop.newXt hl ho r⟩⟩
  · exact q.elim
theorem de_tupleE {es : List Expr} {t : DTA} {p pos : Pos} (hg : Gl X "tuple") (hm : X.mg "tuple" = none) (ha : DA X B lk (e :: es) t) (he : starEach (e :: es) X.env = (false, eval e X.env) :: starEach es X.env := by rfl) (hpl : (backTo pos (starEach es X.env)).any (·.1) = false := by rfl) :
    DE X B lk (.Call (.Name "tuple" p) (e :: es) [] pos) (cFn (g1 gTplE) t) := de_fnT call_tuple_ofE gTplE_ok.ok hg hm boot_tuple ha (he := he) (hpl := hpl)
/-! a name's thing, exact tuples told as plain ones -/
def cVarP (i : Nat) : DT := fun st Q => match st[i]? with
  | some (.fr x) => Q (.fr (strip x)) st
  | _ => False
theorem Rel.stripTop {K : PySem.W.Frag} {lv : List (Nat × V)} {st tm : List Vl} {σ : L2.St} {tv : List V} {H : Hp} {x : PyData} {v : V} (R : Rel K B lv st (.fr x :: tm) σ (v :: tv) H) : Rel K B lv st (.fr (strip x) :: tm) σ (v :: tv) H := by
  obtain ⟨F, O, R⟩ := R
  exact ⟨F, O, R.pop.push (d := .fr _) (Rp.strip _ _ (R.top (d := .fr x) (fun i z => by cases z)))⟩
theorem de_varP (i : Nat) {x : Str} {pos : Pos} (hN : X.N[i]? = some x := by rfl) (hv : Vis X.env.scope x := by first | exact Or.inl rfl | exact Or.inr (Or.inl rfl) | exact Or.inr (Or.inr rfl)) (hd : (x == ("__debug__" : Str)) = false := by decide)
    (hcd : (x == ("__classdict__" : Str)) = false := by decide) : DE X B lk (.Name x pos) (cVarP i) := PE.weak (pe_var hN hv hd hcd) fun σ H Q ⟨lv, st, tm, tv, Q0, L, R, h, k⟩ => by
  unfold cVarP at h
  cases q : st[i]? with
  | none => rw [q] at h; exact h.elim
  | some d =>
    rw [q] at h
    cases d with
    | fr x => obtain ⟨v, h1, R'⟩ := R.copy q; exact ⟨v, h1, k _ _ _ _ h R'.stripTop⟩
    | _ => exact h.elim
/-! list.extend by a tuple -/
theorem list_extendT (l : Addr) (items : Array Value) (n : Nat) (b : Addr) (items2 : Array Value) (n2 : Nat) (dd : Option Addr) (sl : Array (Option Value)) (hs0 : ¬(!items.isEmpty && Builtin.List.listTooLong (items.size + items2.size)) = true) (hs1 : items.size ≤ sizeLine) (hs2 : items.size + items2.size ≤ sizeLine + 1) :
    PySem.Meets (Builtin.«list.extend» ⟨[.ref l, .ref b], []⟩) (fun _ R s => s.heap.get? l = some { cls := .type "list", dict := none, data := .seq items n, slots := #[] } ∧ s.heap.get? b = some { cls := .type "tuple", dict := dd, data := .seq items2 n2, slots := sl } ∧ R (.ok (.ret Value.none)) { s with heap := s.heap.update l (Obj.mapSeq fun x => x ++ items2), toks := s.toks }) :=
  .of_wp fun prog w A R s h => by
    obtain ⟨hp, g, d, tk, os⟩ := s; obtain ⟨hl, hb, h⟩ := h; have f1 := AutoSeq1.idx_int; have f2 := AutoSeq1.sub_tuple_tuple; have f3 := AutoSeq1.sub_list_list; have f4 := AutoSeq1.sub_tuple_list; have f5 := AutoSeq1.sub_list_tuple
    have hz' : (items ++ items2).size ≤ sizeLine + 1 := by rw [Array.size_append]; exact hs2
    wp_walk using (wpAny_updateSeq hl rfl (hz := hs1) (_hz' := hz')), wpAny_loadPart' hl, wpAny_loadPart' hb; exact ⟨_, rfl, h⟩
def rExtendT (K : PySem.W.Frag) : V → List V → Hp → VK → Prop := fun x vs H Q => ∃ l b xs zs, x = .ref l ∧ vs = [.ref b] ∧ H l = some (.lst xs) ∧ SqT K H b zs ∧ xs.length + zs.length ≤ sizeLine ∧ Q .non (upd H l (.lst (xs ++ zs)))
theorem mt_extendT : MtM X "list.extend" (rExtendT X.K) := by
  intro pins s σ H x vs v us Q I rx rv h
  obtain ⟨l, b, xs, zs, rfl, rfl, hH, hB, hz, q⟩ := h
  cases rx
  obtain ⟨u, rfl, ru⟩ := rv.one
  cases ru
  obtain ⟨z, its, n, r, hl, e⟩ := I.lstM hH
  obtain ⟨its2, r2, pl, hl2⟩ := I.tuple hB
  obtain ⟨⟨cls, dd, data, sls⟩, e2, hc, n2, hdt⟩ := pl
  simp only at hc hdt
  subst hc hdt
  have hr2 := r2.length
  have hsz : its.toArray.size + its2.toArray.size ≤ sizeLine := by rw [List.size_toArray, List.size_toArray]; omega
  have hlong : ¬ (!its.toArray.isEmpty && Builtin.List.listTooLong (its.toArray.size + its2.toArray.size)) = true := by
    rw [notLongL hsz, Bool.and_false]
    exact Bool.false_ne_true
  refine call_meets PySem.F.slot_list_extend ⟨_, e, rfl⟩ PySem.F.entry_list_extend (PySem.F.args_list_extend_2 _ _)
    (list_extendT l its.toArray n b its2.toArray n2 dd sls hlong (by rw [List.size_toArray]; omega) (by omega)) ⟨e, e2, ?_⟩
  refine ⟨.non, _, I.lset (its' := its ++ its2) hH e (by simp) (r.append r2) ?_, rfl, q⟩
  rw [List.length_append]
  omega
def E2T (i : Nat) (ds st2 : List Vl) (Q : Vl → List Vl → Prop) : Prop := ∃ xs d2 ys, st2[i]? = some (.ow xs) ∧ ds = [d2] ∧ pyO st2 d2 = some (.tuple ys) ∧ xs.length + ys.length ≤ sizeLine ∧ Q (.fr .none) (st2.set i (.ow (xs ++ ys)))
def cExtT (to : DT) (t : DTA) : DT := fun st Q => to st fun d st1 => ∃ i xs, d = .bor i ∧ st1[i]? = some (.ow xs) ∧ t st1 fun ds st2 => E2T i ds st2 Q
theorem de_extendT {t : DTA} (ho : DE X B lk o to) (ha : DA X B lk [e] t) (hbase : attributeBase o "extend" X.env (eval o X.env) = eval o X.env := by rfl)
    (hfew : ((backTo cpos (starEach [e] X.env)).all (fun x => !x.1) && (backToKw cpos (keywordEach [] X.env)).all (fun x => x.1.isSome)
      && decide ([e].length + ([] : List Keyword).length + (if ([] : List Keyword).isEmpty then 0 else 1) < 30)) = true := by rfl)
    (hline : (apos.endLine == cpos.line) = true := by rfl) (hs : starEach [e] X.env = (false, eval e X.env) :: starEach [] X.env := by rfl) (hplain : (backTo cpos (starEach [] X.env)).any (·.1) = false := by rfl) :
    DE X B lk (.Call (.Attribute o "extend" apos) [e] [] cpos) (cExtT to t) :=
  PE.weak (pe_bm PySem.F.plainAttrs_list PySem.F.slot_list_extend PySem.F.type_list_extend mt_extendT ho ha hbase hfew hline hs hplain) fun σ H Q ⟨lv, st, tm, tv, Q0, L, R, h, k⟩ => by
    refine ⟨lv, st, tm, tv, _, L, R, h, fun d st1 v H1 q1 R1 => ?_⟩
    obtain ⟨i, xs, rfl, e1, q1⟩ := q1
    refine ⟨tyL R1 e1, lv, st1, .bor i :: tm, v :: tv, _, L, R1, q1, fun ds st2 vs H2 q2 hl R2 => ?_⟩
    obtain ⟨xs, d2, ys, e2, rfl, e3, hz, q2⟩ := q2
    match vs, hl with
    | [u], _ =>
      have R3 : Rel X.K B lv st2 (d2 :: .bor i :: tm) σ (u :: v :: tv) H2 := R2
      obtain ⟨F, O, R4⟩ := R3
      obtain ⟨b, us, rfl, hb, rb⟩ := R4.tup e3
      obtain ⟨a, ws, rfl, ho', h1, r1, hs'⟩ := R4.pop.ofAlias e2
      refine ⟨a, b, ws, us, rfl, rfl, h1, hb, by rw [r1.length, rb.length]; exact hz, ?_⟩
      have R5 := (R4.pop.pop).putL ho' h1 hs' (r1.append rb)
      exact k _ _ _ _ q2 ⟨F, O, R5.push (d := .fr .none) .non⟩
end
section
variable {st : List Vl} {Q : Vl → List Vl → Prop} {to te : DT} {d v : Vl}
theorem s_extT {t : DTA} (h : to st fun d st1 => ∃ i xs, d = .bor i ∧ st1[i]? = some (.ow xs) ∧ t st1 fun ds st2 => E2T i ds st2 Q) : cExtT to t st Q := h
theorem s_ext2T {i : Nat} {xs ys : List PyData} {st' : List Vl} (e : st[i]? = some (.ow xs)) (e2 : pyO st v = some (.tuple ys)) (hz : xs.length + ys.length ≤ sizeLine) (e3 : st.set i (.ow (xs ++ ys)) = st') (h : Q (.fr .none) st') : E2T i [v] st Q := by subst e3; exact ⟨xs, v, ys, e, rfl, e2, hz, h⟩
theorem s_ixq {tup : Bool} (h : to st fun d st1 => (∃ ds, pyO st1 d = some (cont tup ds)) ∧ te st1 fun y st2 => gIxQ tup st2 d y Q) : cIxQ tup to te st Q := h
theorem s_ixPt (ps : List (List Int)) (p : List Int) (j : Nat) (e1 : pyO st d = some (.list (ps.map pt))) (e2 : pyO st v = some (pt p)) (h1 : ps[j]? = some p) (h2 : ∀ (m : Nat) (z : List Int), m < j → ps[m]? = some z → z ≠ p) (h : Q (.fr (.int (j : Nat))) st) : gIxQ false st d v Q :=
  ⟨ps.map pt, pt p, j, e1, e2, ⟨lay_pts ps, lay_pt p, dep_pt60 p, nd_pts ps, ⟨pt p, by rw [List.getElem?_map, h1]; rfl, by rw [eqv_pt, decide_eq_true rfl]⟩, fun m z' hm hz => by
    rw [List.getElem?_map] at hz
    obtain ⟨z, hz2, rfl⟩ := Option.map_eq_some_iff.mp hz
    rw [eqv_pt, decide_eq_false (h2 m z hm hz2)]⟩, h⟩
theorem s_ixe (h : to st fun d st1 => (∃ ds, d = .fr (xt ds)) ∧ te st1 fun y st2 => gIxE st2 d y Q) : cIxE to te st Q := h
theorem s_ixEi (ns : List Int) (k : Int) (j : Nat) (e1 : d = .fr (xt (ns.map .int))) (e2 : pyO st v = some (.int k)) (h1 : ns[j]? = some k) (h2 : ∀ (m : Nat) (z : Int), m < j → ns[m]? = some z → z ≠ k) (h : Q (.fr (.int (j : Nat))) st) : gIxE st d v Q :=
  ⟨ns.map .int, .int k, j, e1, e2, ⟨lay_ints ns, by simp [PyData.canLay0], rfl, nd_ints ns, ⟨.int k, by rw [List.getElem?_map, h1]; rfl, by rw [eqv_int, decide_eq_true rfl]⟩, fun m z' hm hz => by
    rw [List.getElem?_map] at hz
    obtain ⟨z, hz2, rfl⟩ := Option.map_eq_some_iff.mp hz
    rw [eqv_int, decide_eq_false (h2 m z hm hz2)]⟩, h⟩
theorem s_varP {x y : PyData} {i : Nat} (e : st[i]? = some (.fr x)) (e2 : strip x = y) (h : Q (.fr y) st) : cVarP i st Q := by subst e2; unfold cVarP; rw [e]; exact h
theorem s_tplE {QF : Vl → Prop} {xs : List PyData} (e : pyO st v = some (.list xs)) (h : QF (.fr (xt xs))) : gTplE st v QF := by unfold gTplE; rw [e]; exact h
theorem stripA_eq : ∀ {ds : List PyData}, (∀ d ∈ ds, strip d = d) → stripA ds = ds
  | [], _ => rfl
  | d :: ds, h => by rw [stripA, h d List.mem_cons_self, stripA_eq fun x hx => h x (List.mem_cons_of_mem _ hx)]
theorem stripA_map {α : Type} (f g : α → PyData) : ∀ {l : List α}, (∀ x ∈ l, strip (f x) = g x) → stripA (l.map f) = l.map g
  | [], _ => rfl
  | x :: l, h => by rw [List.map_cons, stripA, h x List.mem_cons_self, stripA_map f g fun y hy => h y (List.mem_cons_of_mem _ hy)]; rfl
theorem strip_int (i : Int) : strip (.int i) = .int i := by simp [strip]
theorem strip_ints (xs : List Int) : stripA (xs.map .int) = xs.map .int := stripA_eq fun d hd => by
  obtain ⟨x, _, rfl⟩ := List.mem_map.mp hd
  exact strip_int x
theorem strip_xt (xs : List Int) : strip (xt (xs.map .int)) = pt xs := by rw [xt, strip, strip_ints, pt]
theorem strip_rows (rs : List (List Int)) : strip (.tuple (rs.map fun r => xt (r.map .int))) = .tuple (rs.map pt) := by
  rw [strip, stripA_map _ pt fun x _ => strip_xt x]
/-- the first place of a thing that is there -/
theorem first_of {α : Type} [DecidableEq α] {l : List α} {k : α} (h : k ∈ l) : l[l.idxOf k]? = some k ∧ ∀ (m : Nat) (z : α), m < l.idxOf k → l[m]? = some z → z ≠ k := by
  refine ⟨?_, fun m z hm hz e => ?_⟩
  · rw [List.getElem?_eq_getElem (List.idxOf_lt_length_iff.mpr h)]
    exact congrArg some (List.getElem_idxOf _)
  · subst e
    have hml := (List.getElem?_eq_some_iff.mp hz)
    obtain ⟨h1, h2⟩ := hml
    have h3 := List.not_of_lt_findIdx (p := (· == z)) hm
    simp only [h2, beq_self_eq_true] at h3
    exact Bool.noConfusion h3
end
end DL

/-! Spreads: the judge's word and the law's own. -/
namespace DL
open PySem PySem.Spec PyProof.Rows L2
def clashB (ps : List (List Int)) (some : List Int) : Bool := some.any fun a => some.any fun b => beats (ps.getD a.toNat []) (ps.getD b.toNat [])
def fallsB (ps : List (List Int)) (row : List Int) : Bool := (row.zip (row.drop 1)).all fun p => beats (ps.getD p.1.toNat []) (ps.getD p.2.toNat [])
def rngL (n : Nat) : List Int := (List.range n).map fun (i : Nat) => (i : Int)
def srt (l : List Int) : List Int := l.mergeSort fun a b => decide (a ≤ b)
def inR (n : Nat) (x : Int) : Bool := decide (0 ≤ x ∧ x < (n : Int))
def spreadB (ps : List (List Int)) (some : List Int) (rows : List (List Int)) : Bool :=
  rises some (ps.length : Int) && (decide (rows.length = some.length) && (!clashB ps some && ((rows.all fun r => decide (r ≠ []) && rowOk ps r) && decide (srt rows.flatten = rngL ps.length))))
def lawB (ps : List (List Int)) (some : List Int) (rows : List (List Int)) : Bool :=
  decide (some.length = rows.length) && ((some ++ rows.flatten).all (inR ps.length) && (decide (some = uniI some) && (!(rows.any fun r => decide (r = [])) && (!clashB ps some && (rows.all (fallsB ps) && decide (srt rows.flatten = rngL ps.length))))))
theorem inR_eq (n : Nat) (x : Int) : withinD (.int x) 0 ((n : Int) - 1) = inR n x := by
  unfold inR
  rw [Bool.eq_iff_iff]
  simp only [withinD, Bool.and_eq_true, decide_eq_true_eq]
  omega
theorem rises_eq (some : List Int) (n : Nat) : rises some (n : Int) = (some.all (inR n) && decide (some = uniI some)) := by
  unfold rises
  have e1 : (some.all fun x => withinD (.int x) 0 ((n : Int) - 1)) = some.all (inR n) := by
    congr 1
    funext x
    exact inR_eq n x
  rw [e1]
  congr 1
  rw [Bool.eq_iff_iff, rise_pairs, decide_eq_true_eq]
  constructor
  · intro h
    exact uniq_eq stoI (h.imp fun {a b} z => by simpa using z) fun z => Iff.rfl
  · intro h
    rw [h]
    exact (uniq_up stoI some).imp fun {a b} z => by simpa using z
theorem rowOk_eq (ps : List (List Int)) (r : List Int) : rowOk ps r = (r.all (inR ps.length) && fallsB ps r) := by
  unfold rowOk fallsB
  congr 1
  congr 1
  funext x
  exact inR_eq ps.length x
theorem spread_eq (ps : List (List Int)) (some : List Int) (rows : List (List Int)) : spreadB ps some rows = lawB ps some rows := by
  rw [Bool.eq_iff_iff]
  unfold spreadB lawB
  rw [rises_eq]
  simp only [rowOk_eq, Bool.and_eq_true, decide_eq_true_eq, List.all_append, List.all_flatten, Bool.not_eq_true', List.all_eq_true, List.any_eq_false, ne_eq, decide_not]
  constructor
  · rintro ⟨⟨h1, h2⟩, h3, h4, h5, h6⟩
    exact ⟨h3.symm, ⟨h1, fun r hr => (h5 r hr).2.1⟩, h2, fun r hr => of_decide_eq_false (h5 r hr).1, h4, fun r hr => (h5 r hr).2.2, h6⟩
  · rintro ⟨h3, ⟨h1, h1'⟩, h2, h5, h4, h6, h7⟩
    exact ⟨⟨h1, h2⟩, h3.symm, h4, fun r hr => ⟨decide_eq_false (h5 r hr), h1' r hr, h6 r hr⟩, h7⟩
end DL

/-! A spread as it is made: columns, their points in any order. -/
namespace DL
open PySem PySem.Spec PyProof.Rows L2
abbrev Col := List (List Int) × List Int
def prsAt : Nat → List Col → List (Nat × Nat)
  | _, [] => []
  | k, c :: cs => (List.range c.1.length).map (fun j => (k, j)) ++ prsAt (k + 1) cs
def valC (cs : List Col) (p : Nat × Nat) : List Int := (cs.getD p.1 ([], [])).1.getD p.2 []
def rowC (P : List (Nat × Nat)) (k : Nat) (c : Col) : List Int := (List.range c.1.length).map fun j => ((P.idxOf (k, j) : Nat) : Int)
def rowsAt (P : List (Nat × Nat)) : Nat → List Col → List (List Int)
  | _, [] => []
  | k, c :: cs => rowC P k c :: rowsAt P (k + 1) cs
def midC (P : List (Nat × Nat)) (k : Nat) (c : Col) : Int := ((P.idxOf (k, c.1.idxOf c.2) : Nat) : Int)
def midsAt (P : List (Nat × Nat)) : Nat → List Col → List Int
  | _, [] => []
  | k, c :: cs => midC P k c :: midsAt P (k + 1) cs
theorem prs_app : ∀ (cs : List Col) (k : Nat) (c : Col), prsAt k (cs ++ [c]) = prsAt k cs ++ (List.range c.1.length).map fun j => (k + cs.length, j)
  | [], k, c => by simp [prsAt]
  | d :: cs, k, c => by
    rw [List.cons_append, prsAt, prs_app cs (k + 1) c, prsAt, List.append_assoc, List.length_cons]
    rw [show k + 1 + cs.length = k + (cs.length + 1) by omega]
theorem rows_app (P : List (Nat × Nat)) : ∀ (cs : List Col) (k : Nat) (c : Col), rowsAt P k (cs ++ [c]) = rowsAt P k cs ++ [rowC P (k + cs.length) c]
  | [], k, c => rfl
  | d :: cs, k, c => by
    rw [List.cons_append, rowsAt, rows_app P cs (k + 1) c, rowsAt, List.length_cons, show k + 1 + cs.length = k + (cs.length + 1) by omega]
    rfl
theorem rows_len (P : List (Nat × Nat)) : ∀ (cs : List Col) (k : Nat), (rowsAt P k cs).length = cs.length
  | [], _ => rfl
  | c :: cs, k => by rw [rowsAt, List.length_cons, rows_len P cs, List.length_cons]
theorem mids_len (P : List (Nat × Nat)) : ∀ (cs : List Col) (k : Nat), (midsAt P k cs).length = cs.length
  | [], _ => rfl
  | c :: cs, k => by rw [midsAt, List.length_cons, mids_len P cs, List.length_cons]
theorem mem_rows {P : List (Nat × Nat)} {r : List Int} : ∀ {cs : List Col} {k : Nat}, r ∈ rowsAt P k cs → ∃ i c, cs[i]? = some c ∧ r = rowC P (k + i) c
  | c :: cs, k, h => by
    rcases List.mem_cons.mp h with rfl | h
    · exact ⟨0, c, rfl, rfl⟩
    · obtain ⟨i, c', h1, h2⟩ := mem_rows h
      exact ⟨i + 1, c', by simpa using h1, by rw [h2, show k + 1 + i = k + (i + 1) by omega]⟩
theorem mem_mids {P : List (Nat × Nat)} {x : Int} : ∀ {cs : List Col} {k : Nat}, x ∈ midsAt P k cs → ∃ i c, cs[i]? = some c ∧ x = midC P (k + i) c
  | c :: cs, k, h => by
    rcases List.mem_cons.mp h with rfl | h
    · exact ⟨0, c, rfl, rfl⟩
    · obtain ⟨i, c', h1, h2⟩ := mem_mids h
      exact ⟨i + 1, c', by simpa using h1, by rw [h2, show k + 1 + i = k + (i + 1) by omega]⟩
theorem mids_at {P : List (Nat × Nat)} : ∀ {cs : List Col} {k i : Nat} {c : Col}, cs[i]? = some c → (midsAt P k cs)[i]? = some (midC P (k + i) c)
  | d :: cs, k, 0, c, h => by
    have h : d = c := by simpa using h
    subst h; rfl
  | d :: cs, k, i + 1, c, h => by
    have h2 := mids_at (P := P) (k := k + 1) (show cs[i]? = some c by simpa using h)
    rw [midsAt, List.getElem?_cons_succ, h2, show k + 1 + i = k + (i + 1) by omega]
theorem mids_mem {P : List (Nat × Nat)} {cs : List Col} {k i : Nat} {c : Col} (h : cs[i]? = some c) : midC P (k + i) c ∈ midsAt P k cs := List.mem_of_getElem? (mids_at h)
theorem rows_flat (P : List (Nat × Nat)) : ∀ (cs : List Col) (k : Nat), (rowsAt P k cs).flatten = (prsAt k cs).map fun p => ((P.idxOf p : Nat) : Int)
  | [], _ => rfl
  | c :: cs, k => by
    rw [rowsAt, List.flatten_cons, rows_flat P cs, prsAt, List.map_append, List.map_map]
    rfl
theorem prs_ge {p : Nat × Nat} : ∀ {cs : List Col} {k : Nat}, p ∈ prsAt k cs → ∃ i c, cs[i]? = some c ∧ p.1 = k + i ∧ p.2 < c.1.length
  | c :: cs, k, h => by
    rcases List.mem_append.mp h with h | h
    · obtain ⟨j, hj, rfl⟩ := List.mem_map.mp h
      exact ⟨0, c, rfl, rfl, List.mem_range.mp hj⟩
    · obtain ⟨i, c', h1, h2, h3⟩ := prs_ge h
      exact ⟨i + 1, c', by simpa using h1, by omega, h3⟩
theorem prs_mem : ∀ {cs : List Col} {k i j : Nat} {c : Col}, cs[i]? = some c → j < c.1.length → (k + i, j) ∈ prsAt k cs
  | d :: cs, k, 0, j, c, h, hj => by
    have h : d = c := by simpa using h
    subst h
    exact List.mem_append.mpr (.inl (List.mem_map.mpr ⟨j, List.mem_range.mpr hj, rfl⟩))
  | d :: cs, k, i + 1, j, c, h, hj => by
    have h2 := prs_mem (k := k + 1) (show cs[i]? = some c by simpa using h) hj
    rw [show k + 1 + i = k + (i + 1) by omega] at h2
    exact List.mem_append.mpr (.inr h2)
theorem prs_nodup : ∀ (cs : List Col) (k : Nat), (prsAt k cs).Nodup
  | [], _ => List.nodup_nil
  | c :: cs, k => by
    rw [prsAt, List.nodup_append]
    refine ⟨?_, prs_nodup cs (k + 1), fun a ha b hb e => ?_⟩
    · refine List.Pairwise.map _ ?_ List.nodup_range
      intro a b hab e
      exact hab (Prod.mk.inj e).2
    · obtain ⟨j, hj, rfl⟩ := List.mem_map.mp ha
      obtain ⟨i, _, _, h2, _⟩ := prs_ge hb
      rw [← e] at h2
      simp only at h2
      omega
theorem prs_len : ∀ (cs : List Col) (k : Nat), (prsAt k cs).length = (cs.map fun c => c.1.length).sum
  | [], _ => rfl
  | c :: cs, k => by rw [prsAt, List.length_append, prs_len cs, List.length_map, List.length_range, List.map_cons, List.sum_cons]
theorem idx_inj {α : Type} [BEq α] [LawfulBEq α] {l : List α} {a b : α} (ha : a ∈ l) (h : l.idxOf a = l.idxOf b) (hb : b ∈ l) : a = b := by
  have h1 := List.getElem_idxOf (List.idxOf_lt_length_iff.mpr ha)
  have h2 := List.getElem_idxOf (List.idxOf_lt_length_iff.mpr hb)
  rw [← h1, ← h2]
  congr 1
theorem getD_idx {α : Type} [BEq α] [LawfulBEq α] {l : List α} {a : α} (d : α) (ha : a ∈ l) : l.getD (l.idxOf a) d = a := by
  rw [List.getD_eq_getElem?_getD, List.getElem?_eq_getElem (List.idxOf_lt_length_iff.mpr ha), List.getElem_idxOf]; rfl
theorem idx_range {α : Type} [BEq α] [LawfulBEq α] : ∀ {l : List α}, l.Nodup → l.map (fun a => l.idxOf a) = List.range l.length := by
  intro l h
  apply List.ext_getElem
  · rw [List.length_map, List.length_range]
  · intro i h1 h2
    rw [List.getElem_map, List.getElem_range]
    have hi : i < l.length := by rw [List.length_map] at h1; exact h1
    exact h.idxOf_getElem i hi
theorem srt_perm {l m : List Int} (h : l.Perm m) (hm : m.Pairwise (· ≤ ·)) : srt l = m := by
  have h1 : (srt l).Pairwise (· ≤ ·) := (List.pairwise_mergeSort (le := fun a b : Int => decide (a ≤ b)) (fun a b c x y => by simp only [decide_eq_true_eq] at *; omega) (fun a b => by simp only [Bool.or_eq_true, decide_eq_true_eq]; omega) l).imp fun {a b} z => by simpa using z
  exact ((List.mergeSort_perm _ _).trans h).eq_of_pairwise (fun a b _ _ x y => by omega) h1 hm
theorem rngL_up (n : Nat) : (rngL n).Pairwise (· < ·) := by
  unfold rngL
  refine List.Pairwise.map _ ?_ List.pairwise_lt_range
  intro a b h; omega
theorem not_over {p q : List Int} (h : p.length = q.length) {k : Nat} (hk : k < p.length) (hlt : p.getD k 0 < q.getD k 0) : beats p q = false := by
  cases e : beats p q with
  | false => rfl
  | true =>
    unfold beats at e
    rw [Bool.and_eq_true] at e
    have := (isover_at h).mp e.2 k hk
    omega
def belowQ (a b : List Int) : Prop := a.getD 0 0 < b.getD 0 0 ∧ b.getD 1 0 < a.getD 1 0
theorem getD_out {p : List Int} {k : Nat} (h : p.length ≤ k) : p.getD k 0 = 0 := by
  rw [List.getD_eq_getElem?_getD, List.getElem?_eq_none h]; rfl
theorem below_not {p q : List Int} (h : p.length = q.length) (hb : belowQ p q) : beats p q = false ∧ beats q p = false := by
  have h0 : 0 < p.length := Nat.lt_of_not_le fun z => by
    have := hb.1
    rw [getD_out z, getD_out (h ▸ z)] at this
    omega
  have h1 : 1 < p.length := Nat.lt_of_not_le fun z => by
    have := hb.2
    rw [getD_out z, getD_out (h ▸ z)] at this
    omega
  exact ⟨not_over h h0 hb.1, not_over h.symm (h ▸ h1) hb.2⟩
theorem first_of2 {α : Type} [BEq α] [LawfulBEq α] {l : List α} {k : α} (h : k ∈ l) : l[l.idxOf k]? = some k ∧ ∀ (m : Nat) (z : α), m < l.idxOf k → l[m]? = some z → z ≠ k := by
  refine ⟨?_, fun m z hm hz e => ?_⟩
  · rw [List.getElem?_eq_getElem (List.idxOf_lt_length_iff.mpr h)]
    exact congrArg some (List.getElem_idxOf _)
  · subst e
    obtain ⟨h1, h2⟩ := List.getElem?_eq_some_iff.mp hz
    have h3 := List.not_of_lt_findIdx (p := (· == z)) hm
    simp only [h2, beq_self_eq_true] at h3
    cases h3
theorem zip_rowsX {F : List Int → PyData} {G : Col → PyData} (P : List (Nat × Nat)) : ∀ (cs : List Col) (k : Nat), zip2D ((rowsAt P k cs).map F) (cs.map G) = (cs.zipIdx k).map fun p => .tuple [F (rowC P p.2 p.1), G p.1]
  | [], _ => rfl
  | c :: cs, k => by
    rw [List.zipIdx_cons, List.map_cons, List.map_cons, rowsAt, List.map_cons, zip2D, List.zipWith_cons_cons]
    exact congrArg _ (zip_rowsX P cs (k + 1))
theorem mids_zip (P : List (Nat × Nat)) : ∀ (cs : List Col) (k : Nat), ((cs.zipIdx k).map fun p => PyData.int (midC P p.2 p.1)) = (midsAt P k cs).map .int
  | [], _ => rfl
  | c :: cs, k => by
    rw [List.zipIdx_cons, List.map_cons, mids_zip P cs (k + 1), midsAt, List.map_cons]
section
variable {m : Nat} {cs : List Col} {P : List (Nat × Nat)}
theorem val_at {i j : Nat} {c : Col} (h : cs[i]? = some c) : valC cs (i, j) = c.1.getD j [] := by
  unfold valC
  rw [List.getD_eq_getElem?_getD (l := cs), h]; rfl
theorem ps_at (hn : P.Nodup) {p : Nat × Nat} (hp : p ∈ P) : (P.map (valC cs)).getD ((P.idxOf p : Nat) : Int).toNat [] = valC cs p := by
  rw [Int.toNat_natCast, List.getD_eq_getElem?_getD, List.getElem?_map, List.getElem?_eq_getElem (List.idxOf_lt_length_iff.mpr hp), List.getElem_idxOf]; rfl
theorem mids_nodup2 (hperm : P.Perm (prsAt 0 cs)) (hmem : ∀ c ∈ cs, c.2 ∈ c.1) : (midsAt P 0 cs).Nodup := by
  refine List.pairwise_iff_getElem.mpr fun i j hi2 hj2 hij e => ?_
  have hi : i < cs.length := by rw [mids_len] at hi2; exact hi2
  have hj : j < cs.length := by rw [mids_len] at hj2; exact hj2
  have e1 := (List.getElem?_eq_some_iff.mp (mids_at (P := P) (k := 0) (List.getElem?_eq_getElem hi))).2
  have e2 := (List.getElem?_eq_some_iff.mp (mids_at (P := P) (k := 0) (List.getElem?_eq_getElem hj))).2
  rw [e1, e2] at e
  unfold midC at e
  have m1 := prs_mem (k := 0) (List.getElem?_eq_getElem hi) (List.idxOf_lt_length_iff.mpr (hmem _ (List.getElem_mem hi)))
  have m2 := prs_mem (k := 0) (List.getElem?_eq_getElem hj) (List.idxOf_lt_length_iff.mpr (hmem _ (List.getElem_mem hj)))
  have := idx_inj (hperm.mem_iff.mpr m1) (by omega) (hperm.mem_iff.mpr m2)
  have := (Prod.mk.inj this).1
  omega
theorem rows_rng (hperm : P.Perm (prsAt 0 cs)) : (rowsAt P 0 cs).flatten.Perm (rngL P.length) := by
  rw [rows_flat]
  have hn := hperm.nodup_iff.mpr (prs_nodup cs 0)
  have h1 : ((prsAt 0 cs).map fun p => ((P.idxOf p : Nat) : Int)).Perm (P.map fun p => ((P.idxOf p : Nat) : Int)) := (hperm.map _).symm
  refine h1.trans ?_
  have : (P.map fun p => ((P.idxOf p : Nat) : Int)) = rngL P.length := by
    unfold rngL
    rw [← idx_range hn, List.map_map]; rfl
  rw [this]
theorem rows_nodup (hperm : P.Perm (prsAt 0 cs)) : (rowsAt P 0 cs).flatten.Nodup :=
  (rows_rng hperm).nodup_iff.mpr ((rngL_up _).imp fun {a b} h => by omega)
theorem made_ok (hok : ∀ c ∈ cs, c.2 ∈ c.1 ∧ (∀ p ∈ c.1, p.length = m) ∧ ∀ j, j + 1 < c.1.length → beats (c.1.getD j []) (c.1.getD (j + 1) []) = true)
    (hpw : cs.Pairwise fun a b => a.2 = b.2 ∨ belowQ a.2 b.2) (hperm : P.Perm (prsAt 0 cs)) :
    spreadB (P.map (valC cs)) (srt (midsAt P 0 cs)) (rowsAt P 0 cs) = true := by
  have hn := hperm.nodup_iff.mpr (prs_nodup cs 0)
  have hlen : (P.map (valC cs)).length = P.length := List.length_map _
  have hmn := mids_nodup2 hperm fun c hc => (hok c hc).1
  have hin : ∀ {i j : Nat} {c : Col}, cs[i]? = some c → j < c.1.length → (i, j) ∈ P := fun {i j c} h hj => by
    have := prs_mem (k := 0) h hj
    rw [Nat.zero_add] at this
    exact hperm.mem_iff.mpr this
  have hrg : ∀ {p}, p ∈ P → inR P.length ((P.idxOf p : Nat) : Int) = true := fun {p} hp => by
    have := List.idxOf_lt_length_iff.mpr hp
    unfold inR
    rw [decide_eq_true_eq]; omega
  unfold spreadB
  simp only [Bool.and_eq_true, rises_eq, decide_eq_true_eq, hlen, List.all_eq_true, rowOk_eq, Bool.not_eq_true']
  refine ⟨⟨fun x hx => ?_, ?_⟩, ?_, ?_, fun r hr => ?_, ?_⟩
  · have hx := List.mem_mergeSort.mp hx
    obtain ⟨i, c, h1, rfl⟩ := mem_mids hx
    rw [Nat.zero_add]
    exact hrg (hin h1 (List.idxOf_lt_length_iff.mpr (hok c (List.mem_of_getElem? h1)).1))
  · have hp : (srt (midsAt P 0 cs)).Pairwise (· ≤ ·) := (List.pairwise_mergeSort (le := fun a b : Int => decide (a ≤ b)) (fun a b c x y => by simp only [decide_eq_true_eq] at *; omega) (fun a b => by simp only [Bool.or_eq_true, decide_eq_true_eq]; omega) _).imp fun {a b} z => by simpa using z
    have hnd : (srt (midsAt P 0 cs)).Nodup := (List.mergeSort_perm _ _).nodup_iff.mpr hmn
    exact uniq_eq stoI ((hp.and hnd).imp fun {a b} z => by
      have := z.1; have := z.2
      show decide (a < b) = true
      rw [decide_eq_true_eq]; omega) fun z => Iff.rfl
  · unfold srt
    rw [rows_len, List.length_mergeSort, mids_len]
  · unfold clashB
    rw [List.any_eq_false]
    intro a ha
    rw [Bool.not_eq_true, List.any_eq_false]
    intro b hb
    rw [Bool.not_eq_true]
    obtain ⟨i, c, h1, rfl⟩ := mem_mids (List.mem_mergeSort.mp ha)
    obtain ⟨j, d, h2, rfl⟩ := mem_mids (List.mem_mergeSort.mp hb)
    have hc := List.mem_of_getElem? h1
    have hd := List.mem_of_getElem? h2
    unfold midC
    rw [Nat.zero_add, Nat.zero_add, ps_at hn (hin h1 (List.idxOf_lt_length_iff.mpr (hok c hc).1)), ps_at hn (hin h2 (List.idxOf_lt_length_iff.mpr (hok d hd).1)), val_at h1, val_at h2, getD_idx _ (hok c hc).1, getD_idx _ (hok d hd).1]
    have lc := (hok c hc).2.1 _ (hok c hc).1
    have ld := (hok d hd).2.1 _ (hok d hd).1
    obtain ⟨hi, e1⟩ := List.getElem?_eq_some_iff.mp h1
    obtain ⟨hj, e2⟩ := List.getElem?_eq_some_iff.mp h2
    rcases Nat.lt_trichotomy i j with h | h | h
    · have := List.pairwise_iff_getElem.mp hpw i j hi hj h
      rw [e1, e2] at this
      rcases this with z | z
      · rw [z]; exact beats_irr _
      · exact (below_not (lc.trans ld.symm) z).1
    · subst h
      rw [← e1, ← e2]; exact beats_irr _
    · have := List.pairwise_iff_getElem.mp hpw j i hj hi h
      rw [e1, e2] at this
      rcases this with z | z
      · rw [z]; exact beats_irr _
      · exact (below_not (ld.trans lc.symm) z).2
  · obtain ⟨i, c, h1, rfl⟩ := mem_rows hr
    rw [Nat.zero_add]
    have hc := List.mem_of_getElem? h1
    refine ⟨fun e => ?_, fun x hx => ?_, ?_⟩
    · have h3 := List.length_pos_of_mem (hok c hc).1
      have := congrArg List.length e
      simp only [rowC, List.length_map, List.length_range, List.length_nil] at this
      omega
    · obtain ⟨j, hj, rfl⟩ := List.mem_map.mp hx
      exact hrg (hin h1 (List.mem_range.mp hj))
    · unfold fallsB rowC
      rw [List.all_eq_true]
      intro p hp
      obtain ⟨j, hj, e⟩ := List.getElem_of_mem hp
      rw [List.length_zip, List.length_drop, List.length_map, List.length_range] at hj
      rw [List.getElem_zip, List.getElem_drop, List.getElem_map, List.getElem_map, List.getElem_range, List.getElem_range] at e
      rw [← e]
      have hj1 : j + 1 < c.1.length := by omega
      simp only
      rw [ps_at hn (hin h1 (by omega)), ps_at hn (hin h1 (by omega)), val_at h1, val_at h1, Nat.add_comm 1 j]
      exact (hok c hc).2.2 j hj1
  · exact srt_perm (rows_rng hperm) ((rngL_up _).imp fun {a b} h => by omega)
theorem made_mid (hmem : ∀ c ∈ cs, c.2 ∈ c.1) : ∀ r ∈ rowsAt P 0 cs, ∃ x ∈ r, x ∈ srt (midsAt P 0 cs) := by
  intro r hr
  obtain ⟨i, c, h1, rfl⟩ := mem_rows hr
  rw [Nat.zero_add]
  have h2 := mids_mem (P := P) (k := 0) h1
  rw [Nat.zero_add] at h2
  exact ⟨midC P i c, List.mem_map.mpr ⟨c.1.idxOf c.2, List.mem_range.mpr (List.idxOf_lt_length_iff.mpr (hmem c (List.mem_of_getElem? h1))), rfl⟩, List.mem_mergeSort.mpr h2⟩
theorem le_sum_of_mem1 : ∀ {l : List Nat} {x : Nat}, x ∈ l → x ≤ l.sum
  | a :: l, x, h => by
    rw [List.sum_cons]
    rcases List.mem_cons.mp h with rfl | h
    · omega
    · have := le_sum_of_mem1 h
      omega
theorem made_few (hsum : (cs.map fun c => c.1.length).sum ≤ 24) : ∀ r ∈ rowsAt P 0 cs, r.length ≤ 24 := by
  intro r hr
  obtain ⟨i, c, h1, rfl⟩ := mem_rows hr
  rw [rowC, List.length_map, List.length_range]
  exact Nat.le_trans (le_sum_of_mem1 (List.mem_map.mpr ⟨c, List.mem_of_getElem? h1, rfl⟩)) hsum
end
end DL

namespace U
open PySem PySem.Spec PyProof.Rows L2 DL
set_option hygiene false
local macro_rules | `(tactic| o_attr) => `(tactic| repeat' (first | ((with_reducible apply s_ret)) | ((with_reducible apply s_varF); (· rfl)) | ((with_reducible apply s_rt); (· rfl)) | ((with_reducible apply s_c2)) | ((with_reducible apply s_cons)) | ((with_reducible apply s_nil)) | ((with_reducible apply s_K)) | ((with_reducible apply s_frz)) | ((with_reducible apply s_fn)) | ((with_reducible apply s_call)) | ((with_reducible apply s_clk); (· rfl)) | ((with_reducible apply s_up); (· (first | (simp only [upds]; done) | (simp only [upds]; rfl)))) | ((with_reducible apply s_seq)) | ((with_reducible apply s_frzF)) | ((with_reducible apply s_src); (· rfl)) | ((with_reducible apply s_tst)) | ((with_reducible apply s_tstK)) | ((with_reducible apply s_g1)) | ((with_reducible apply s_lc)) | ((with_reducible apply s_turn)) | ((with_reducible apply s_et)) | ((with_reducible apply s_frz2); (· rfl)) | ((with_reducible apply s_asg)) | ((with_reducible apply s_ifS)) | ((with_reducible apply s_lst)) | ((with_reducible apply s_next)) | ((with_reducible apply s_lstK); (· (first | (simp only [DL.frs, Option.map_some]; done) | (simp only [DL.frs, Option.map_some]; rfl) | rfl)); (· (simp only [List.length_cons, List.length_nil]; omega))) | ((with_reducible apply s_varO); (· rfl)) | ((with_reducible apply s_gT)) | ((with_reducible apply s_seqI)) | ((with_reducible apply s_addI)) | ((with_reducible apply s_eq); (· rfl); (· rfl); (· (first | exact dep_int _ _ | exact dep_str _ _ | exact dep_bool _ _ | exact dep_none _ | exact dep_pt60 _ | exact dep_pl60 _ | exact dep_pts60 _ | exact dep_lpts60 _ | exact dep_mapI _ _ | exact dep_mapIT _ _ | exact dep_pto _ | rfl)); (· (first | exact dep_int _ _ | exact dep_str _ _ | exact dep_bool _ _ | exact dep_none _ | exact dep_pt60 _ | exact dep_pl60 _ | exact dep_pts60 _ | exact dep_lpts60 _ | exact dep_mapI _ _ | exact dep_mapIT _ _ | exact dep_pto _ | rfl))) | ((with_reducible apply s_tup)) | ((with_reducible apply s_yes)) | ((with_reducible apply s_lenT); (· rfl)) | ((with_reducible apply s_tupK); (· (first | (simp only [DL.frs, Option.map_some]; done) | (simp only [DL.frs, Option.map_some]; rfl) | rfl)); (· (simp only [List.length_cons, List.length_nil]; omega))) | ((with_reducible apply s_for)) | ((with_reducible apply s_ixT); (· rfl); (· (first | with_reducible exact atI_0 _ _ | with_reducible exact atI_1 _ _ _ | with_reducible exact atI_2 _ _ _ _ | with_reducible exact atI_3 _ _ _ _ _ | with_reducible exact atI_4 _ _ _ _ _ _ | (apply atI_ok; assumption) | assumption))) | ((with_reducible apply s_pt)) | ((with_reducible apply s_ptK)) | ((with_reducible apply s_sl)) | ((with_reducible apply s_noP)) | ((with_reducible apply s_sqT)) | ((with_reducible apply s_rng1)) | ((with_reducible apply s_gsn)) | ((with_reducible apply s_gsc)) | ((with_reducible apply s_slT); (· rfl)) | ((with_reducible apply s_tu); (· rfl)) | ((with_reducible apply s_ixL); (· rfl); (· (first | with_reducible exact atI_0 _ _ | with_reducible exact atI_1 _ _ _ | with_reducible exact atI_2 _ _ _ _ | with_reducible exact atI_3 _ _ _ _ _ | with_reducible exact atI_4 _ _ _ _ _ _ | (apply atI_ok; assumption) | assumption))) | ((with_reducible apply s_addT); (· rfl); (· rfl); (· (refine small (k := 100000) ?_; (try simp only [List.length_append, List.length_cons, List.length_nil, List.length_map, List.length_take, List.length_drop, List.length_reverse, List.length_replicate, List.length_range]); omega))) | ((with_reducible apply s_frzO)) | ((with_reducible apply s_drop)) | ((with_reducible apply s_tpl1); (· rfl)) | ((with_reducible apply s_or)) | ((with_reducible apply s_lenL); (· rfl)) | ((with_reducible apply s_st); (· (first | (simp only [List.set_cons_succ, List.set_cons_zero]; done) | (simp only [List.set_cons_succ, List.set_cons_zero]; rfl) | rfl))) | ((with_reducible apply s_ne); (· rfl); (· rfl); (· (first | exact dep_int _ _ | exact dep_str _ _ | exact dep_bool _ _ | exact dep_none _ | exact dep_pt60 _ | exact dep_pl60 _ | exact dep_pts60 _ | exact dep_lpts60 _ | exact dep_mapI _ _ | exact dep_mapIT _ _ | exact dep_pto _ | rfl)); (· (first | exact dep_int _ _ | exact dep_str _ _ | exact dep_bool _ _ | exact dep_none _ | exact dep_pt60 _ | exact dep_pl60 _ | exact dep_pts60 _ | exact dep_lpts60 _ | exact dep_mapI _ _ | exact dep_mapIT _ _ | exact dep_pto _ | rfl))) | ((with_reducible apply s_not)) | ((with_reducible apply s_g2)) | ((with_reducible apply s_sqL)) | ((with_reducible apply s_zip)) | ((with_reducible apply s_zipK); (· rfl); (· rfl); (· rfl); (· rfl)) | ((with_reducible apply s_mul); (· (first | exact mulL (by omega) (by omega) | exact mulR (by omega) (by omega) | exact mulB (by omega) (by omega)))) | ((with_reducible apply s_andV)) | ((with_reducible apply s_andVK)) | ((with_reducible apply s_varP); (· rfl); (· (first | exact strip_rows _ | exact strip_xt _ | exact strip_pt _ | rfl))) | ((with_reducible apply s_mod); (· omega)) | ((with_reducible apply s_pow); (· omega); (· omega); (· omega); (· (first | (simp only [Int.reduceToNat, Int.reducePow]; done) | (simp only [Int.reduceToNat, Int.reducePow]; rfl) | rfl))) | ((with_reducible apply s_and)) | ((with_reducible apply s_mth)) | ((with_reducible apply s_enum)) | ((with_reducible apply s_ext)) | ((with_reducible apply s_ext1); (· rfl)) | ((with_reducible apply s_ext2); (· rfl); (· rfl); (· (refine small (k := 100000) ?_; (try simp only [List.length_append, List.length_cons, List.length_nil, List.length_map, List.length_take, List.length_drop, List.length_reverse, List.length_replicate, List.length_range]); omega))) | ((with_reducible apply s_mthK); (· rfl)) | ((with_reducible apply s_enumK); (· rfl); (· rfl)) | ((with_reducible apply s_mth2); (· rfl); (· (first | (simp only [DL.frs, Option.map_some]; done) | (simp only [DL.frs, Option.map_some]; rfl) | rfl))) | ((with_reducible apply s_rs); (· (first | (simp only [rst, List.set_cons_zero, List.set_cons_succ, Option.getD_some, List.getElem?_cons_zero, List.getElem?_cons_succ]; done) | (simp only [rst, List.set_cons_zero, List.set_cons_succ, Option.getD_some, List.getElem?_cons_zero, List.getElem?_cons_succ]; rfl)))) | ((with_reducible apply s_c1)) | ((with_reducible apply s_neg)) | ((with_reducible apply s_rgA)) | ((with_reducible apply s_raK)) | ((with_reducible apply s_lsR)) | ((with_reducible apply s_addL); (· rfl); (· rfl); (· (refine small (k := 100000) ?_; (try simp only [List.length_append, List.length_cons, List.length_nil, List.length_map, List.length_take, List.length_drop, List.length_reverse, List.length_replicate, List.length_range]); omega))) | ((with_reducible apply s_app); (· (refine Nat.lt_of_lt_of_le (m := 100000) ?_ (by rw [sizeLine_eq]; decide); (try simp only [List.length_append, List.length_cons, List.length_nil, List.length_map, List.length_take, List.length_drop, List.length_reverse, List.length_replicate, List.length_range]); omega))) | ((with_reducible apply s_notV)) | ((with_reducible apply s_notVK)) | ((with_reducible apply s_rev)) | ((with_reducible apply s_sub)) | ((with_reducible apply s_isD); (· rfl)) | ((with_reducible apply s_rgk); (· exact RgOk.of_le (by omega) (by omega) (by omega) (by omega))) | ((with_reducible apply s_varS); (· rfl)) | ((with_reducible apply s_frzB); (· rfl)) | ((with_reducible apply s_slL); (· rfl)) | ((with_reducible apply s_revT); (· rfl)) | ((with_reducible apply s_subK); (· rfl); (· (first | exact ixN_30 | exact ixN_31 | exact ixN_32 | exact ixN_51 | exact ixN_52 | exact ixN_53 | rfl)); (· (first | (simp only [List.set_cons_succ, List.set_cons_zero]; done) | (simp only [List.set_cons_succ, List.set_cons_zero]; rfl) | rfl)); (· (first | (simp only [List.set_cons_succ, List.set_cons_zero]; done) | (simp only [List.set_cons_succ, List.set_cons_zero]; rfl) | rfl))) | ((with_reducible apply s_ixe)) | ((with_reducible apply s_ch)) | ((with_reducible apply s_chK)) | ((with_reducible apply s_ciK)) | ((with_reducible apply s_par)) | ((with_reducible apply s_sqO)) | ((with_reducible apply s_rng2)) | ((with_reducible apply s_intB)) | ((with_reducible apply s_lst2); (· rfl)) | ((with_reducible apply s_sqB); (· rfl)) | ((with_reducible apply s_parK); (· rfl); (· rfl); (· rfl); (· rfl); (· (first | (simp only [List.set_cons_succ, List.set_cons_zero]; done) | (simp only [List.set_cons_succ, List.set_cons_zero]; rfl) | rfl))) | ((with_reducible apply s_tplE); (· rfl)) | ((with_reducible apply s_ixq)) | ((with_reducible apply s_extT)) | ((with_reducible apply s_ext2T); (· rfl); (· rfl); (· (refine small (k := 100000) ?_; (try simp only [List.length_append, List.length_cons, List.length_nil, List.length_map, List.length_take, List.length_drop, List.length_reverse, List.length_replicate, List.length_range]); omega)); (· (first | (simp only [List.set_cons_succ, List.set_cons_zero]; done) | (simp only [List.set_cons_succ, List.set_cons_zero]; rfl) | rfl))) | ((with_reducible apply s_fdiv); (· omega); (· omega)) | (with_reducible refine s_brT ?_) | (with_reducible refine s_brF ?_) | (with_reducible refine s_brD (fun h => ?_) (fun h => ?_)) | (with_reducible refine s_brN ?_) | (with_reducible refine s_brEq (eqv_nil _) ?_) | (with_reducible refine s_brE (fun h => ?_) (fun h => ?_)) | (with_reducible refine s_brEq (kd_isTuple_tuple _) ?_) | (with_reducible refine s_brEq (kd_isTuple_list _) ?_) | (with_reducible refine s_brEq (kd_isTuple_int _) ?_) | (with_reducible refine s_brEq (kd_isInt_int _) ?_) | (with_reducible refine s_brEq (kd_isInt_bool _) ?_) | (with_reducible refine s_brEq (kd_isInt_tuple _) ?_) | (with_reducible refine s_brEq (kd_isInt_list _) ?_) | (with_reducible refine s_brEq (kd_isInt_str _) ?_) | (with_reducible refine s_brEq (kd_isBool_int _) ?_) | (with_reducible refine s_brEq (kd_isBool_bool _) ?_) | (with_reducible refine s_brEq (kd_isBool_tuple _) ?_) | (with_reducible refine s_brEq (kd_isStr_str _) ?_) | (with_reducible refine s_brEq (kd_isStr_int _) ?_) | (with_reducible refine s_brEq (kd_isList_list _) ?_) | (with_reducible refine s_brEq (kd_isList_tuple _) ?_) | (with_reducible refine s_brEq (kd_non_int _) ?_) | (with_reducible refine s_brEq (kd_non_bool _) ?_) | (with_reducible refine s_brEq (kd_non_str _) ?_) | (with_reducible refine s_brEq (kd_non_tuple _) ?_) | (with_reducible refine s_brEq (kd_non_list _) ?_) | (with_reducible refine s_brEq (kd_isInt_none) ?_) | (with_reducible refine s_brEq (kd_isTuple_none) ?_) | (with_reducible refine s_brEq (kd_non_none) ?_) | (with_reducible refine s_brEq (eqv_int _ _) ?_) | (with_reducible refine s_brEq (eqv_bool _ _) ?_) | (with_reducible refine s_brEq (eqv_str _ _) ?_) | (with_reducible refine s_brEq (eqv_pt _ _) ?_) | (with_reducible refine s_brEq (eqv_pl _ _) ?_) | (with_reducible refine s_brEq (eqv_pto _ _) ?_) | (with_reducible refine s_brEq (beq_tt _) ?_)))
local macro_rules | `(tactic| o_norm) => `(tactic| repeat' (first | ((with_reducible apply s_ret)) | ((with_reducible apply s_varF); (· rfl)) | ((with_reducible apply s_rt); (· rfl)) | ((with_reducible apply s_c2)) | ((with_reducible apply s_cons)) | ((with_reducible apply s_nil)) | ((with_reducible apply s_K)) | ((with_reducible apply s_frz)) | ((with_reducible apply s_nm); (· rfl); (· rfl); (· (first | (simp only [List.set_cons_succ, List.set_cons_zero]; done) | (simp only [List.set_cons_succ, List.set_cons_zero]; rfl) | rfl))) | ((with_reducible apply s_fn)) | ((with_reducible apply s_call)) | ((with_reducible apply s_clk); (· rfl)) | ((with_reducible apply s_up); (· (first | (simp only [upds]; done) | (simp only [upds]; rfl)))) | ((with_reducible apply s_seq)) | ((with_reducible apply s_frzF)) | ((with_reducible apply s_src); (· rfl)) | ((with_reducible apply s_tst)) | ((with_reducible apply s_tstK)) | ((with_reducible apply s_g1)) | ((with_reducible apply s_lc)) | ((with_reducible apply s_turn)) | ((with_reducible apply s_et)) | ((with_reducible apply s_frz2); (· rfl)) | ((with_reducible apply s_asg)) | ((with_reducible apply s_ifS)) | ((with_reducible apply s_lst)) | ((with_reducible apply s_next)) | ((with_reducible apply s_lstK); (· (first | (simp only [DL.frs, Option.map_some]; done) | (simp only [DL.frs, Option.map_some]; rfl) | rfl)); (· (simp only [List.length_cons, List.length_nil]; omega))) | ((with_reducible apply s_varO); (· rfl)) | ((with_reducible apply s_gT)) | ((with_reducible apply s_seqI)) | ((with_reducible apply s_addI)) | ((with_reducible apply s_eq); (· rfl); (· rfl); (· (first | exact dep_int _ _ | exact dep_str _ _ | exact dep_bool _ _ | exact dep_none _ | exact dep_pt60 _ | exact dep_pl60 _ | exact dep_pts60 _ | exact dep_lpts60 _ | exact dep_mapI _ _ | exact dep_mapIT _ _ | exact dep_pto _ | rfl)); (· (first | exact dep_int _ _ | exact dep_str _ _ | exact dep_bool _ _ | exact dep_none _ | exact dep_pt60 _ | exact dep_pl60 _ | exact dep_pts60 _ | exact dep_lpts60 _ | exact dep_mapI _ _ | exact dep_mapIT _ _ | exact dep_pto _ | rfl))) | ((with_reducible apply s_tup)) | ((with_reducible apply s_yes)) | ((with_reducible apply s_lenT); (· rfl)) | ((with_reducible apply s_tupK); (· (first | (simp only [DL.frs, Option.map_some]; done) | (simp only [DL.frs, Option.map_some]; rfl) | rfl)); (· (simp only [List.length_cons, List.length_nil]; omega))) | ((with_reducible apply s_for)) | ((with_reducible apply s_ixT); (· rfl); (· (first | with_reducible exact atI_0 _ _ | with_reducible exact atI_1 _ _ _ | with_reducible exact atI_2 _ _ _ _ | with_reducible exact atI_3 _ _ _ _ _ | with_reducible exact atI_4 _ _ _ _ _ _ | (apply atI_ok; assumption) | assumption))) | ((with_reducible apply s_pt)) | ((with_reducible apply s_ptK)) | ((with_reducible apply s_sl)) | ((with_reducible apply s_noP)) | ((with_reducible apply s_sqT)) | ((with_reducible apply s_rng1)) | ((with_reducible apply s_gsn)) | ((with_reducible apply s_gsc)) | ((with_reducible apply s_slT); (· rfl)) | ((with_reducible apply s_tu); (· rfl)) | ((with_reducible apply s_ixL); (· rfl); (· (first | with_reducible exact atI_0 _ _ | with_reducible exact atI_1 _ _ _ | with_reducible exact atI_2 _ _ _ _ | with_reducible exact atI_3 _ _ _ _ _ | with_reducible exact atI_4 _ _ _ _ _ _ | (apply atI_ok; assumption) | assumption))) | ((with_reducible apply s_addT); (· rfl); (· rfl); (· (refine small (k := 100000) ?_; (try simp only [List.length_append, List.length_cons, List.length_nil, List.length_map, List.length_take, List.length_drop, List.length_reverse, List.length_replicate, List.length_range]); omega))) | ((with_reducible apply s_frzO)) | ((with_reducible apply s_drop)) | ((with_reducible apply s_tpl1); (· rfl)) | ((with_reducible apply s_or)) | ((with_reducible apply s_lenL); (· rfl)) | ((with_reducible apply s_st); (· (first | (simp only [List.set_cons_succ, List.set_cons_zero]; done) | (simp only [List.set_cons_succ, List.set_cons_zero]; rfl) | rfl))) | ((with_reducible apply s_ne); (· rfl); (· rfl); (· (first | exact dep_int _ _ | exact dep_str _ _ | exact dep_bool _ _ | exact dep_none _ | exact dep_pt60 _ | exact dep_pl60 _ | exact dep_pts60 _ | exact dep_lpts60 _ | exact dep_mapI _ _ | exact dep_mapIT _ _ | exact dep_pto _ | rfl)); (· (first | exact dep_int _ _ | exact dep_str _ _ | exact dep_bool _ _ | exact dep_none _ | exact dep_pt60 _ | exact dep_pl60 _ | exact dep_pts60 _ | exact dep_lpts60 _ | exact dep_mapI _ _ | exact dep_mapIT _ _ | exact dep_pto _ | rfl))) | ((with_reducible apply s_not)) | ((with_reducible apply s_g2)) | ((with_reducible apply s_sqL)) | ((with_reducible apply s_zip)) | ((with_reducible apply s_zipK); (· rfl); (· rfl); (· rfl); (· rfl)) | ((with_reducible apply s_mul); (· (first | exact mulL (by omega) (by omega) | exact mulR (by omega) (by omega) | exact mulB (by omega) (by omega)))) | ((with_reducible apply s_andV)) | ((with_reducible apply s_andVK)) | ((with_reducible apply s_varP); (· rfl); (· (first | exact strip_rows _ | exact strip_xt _ | exact strip_pt _ | rfl))) | ((with_reducible apply s_mod); (· omega)) | ((with_reducible apply s_pow); (· omega); (· omega); (· omega); (· (first | (simp only [Int.reduceToNat, Int.reducePow]; done) | (simp only [Int.reduceToNat, Int.reducePow]; rfl) | rfl))) | ((with_reducible apply s_and)) | ((with_reducible apply s_mth)) | ((with_reducible apply s_enum)) | ((with_reducible apply s_ext)) | ((with_reducible apply s_ext1); (· rfl)) | ((with_reducible apply s_ext2); (· rfl); (· rfl); (· (refine small (k := 100000) ?_; (try simp only [List.length_append, List.length_cons, List.length_nil, List.length_map, List.length_take, List.length_drop, List.length_reverse, List.length_replicate, List.length_range]); omega))) | ((with_reducible apply s_mthK); (· rfl)) | ((with_reducible apply s_enumK); (· rfl); (· rfl)) | ((with_reducible apply s_mth2); (· rfl); (· (first | (simp only [DL.frs, Option.map_some]; done) | (simp only [DL.frs, Option.map_some]; rfl) | rfl))) | ((with_reducible apply s_rs); (· (first | (simp only [rst, List.set_cons_zero, List.set_cons_succ, Option.getD_some, List.getElem?_cons_zero, List.getElem?_cons_succ]; done) | (simp only [rst, List.set_cons_zero, List.set_cons_succ, Option.getD_some, List.getElem?_cons_zero, List.getElem?_cons_succ]; rfl)))) | ((with_reducible apply s_c1)) | ((with_reducible apply s_neg)) | ((with_reducible apply s_rgA)) | ((with_reducible apply s_raK)) | ((with_reducible apply s_lsR)) | ((with_reducible apply s_addL); (· rfl); (· rfl); (· (refine small (k := 100000) ?_; (try simp only [List.length_append, List.length_cons, List.length_nil, List.length_map, List.length_take, List.length_drop, List.length_reverse, List.length_replicate, List.length_range]); omega))) | ((with_reducible apply s_app); (· (refine Nat.lt_of_lt_of_le (m := 100000) ?_ (by rw [sizeLine_eq]; decide); (try simp only [List.length_append, List.length_cons, List.length_nil, List.length_map, List.length_take, List.length_drop, List.length_reverse, List.length_replicate, List.length_range]); omega))) | ((with_reducible apply s_notV)) | ((with_reducible apply s_notVK)) | ((with_reducible apply s_rev)) | ((with_reducible apply s_sub)) | ((with_reducible apply s_isD); (· rfl)) | ((with_reducible apply s_rgk); (· exact RgOk.of_le (by omega) (by omega) (by omega) (by omega))) | ((with_reducible apply s_varS); (· rfl)) | ((with_reducible apply s_frzB); (· rfl)) | ((with_reducible apply s_slL); (· rfl)) | ((with_reducible apply s_revT); (· rfl)) | ((with_reducible apply s_subK); (· rfl); (· (first | exact ixN_30 | exact ixN_31 | exact ixN_32 | exact ixN_51 | exact ixN_52 | exact ixN_53 | rfl)); (· (first | (simp only [List.set_cons_succ, List.set_cons_zero]; done) | (simp only [List.set_cons_succ, List.set_cons_zero]; rfl) | rfl)); (· (first | (simp only [List.set_cons_succ, List.set_cons_zero]; done) | (simp only [List.set_cons_succ, List.set_cons_zero]; rfl) | rfl))) | ((with_reducible apply s_ixe)) | ((with_reducible apply s_ch)) | ((with_reducible apply s_chK)) | ((with_reducible apply s_ciK)) | ((with_reducible apply s_par)) | ((with_reducible apply s_sqO)) | ((with_reducible apply s_rng2)) | ((with_reducible apply s_intB)) | ((with_reducible apply s_lst2); (· rfl)) | ((with_reducible apply s_sqB); (· rfl)) | ((with_reducible apply s_parK); (· rfl); (· rfl); (· rfl); (· rfl); (· (first | (simp only [List.set_cons_succ, List.set_cons_zero]; done) | (simp only [List.set_cons_succ, List.set_cons_zero]; rfl) | rfl))) | ((with_reducible apply s_tplE); (· rfl)) | ((with_reducible apply s_ixq)) | ((with_reducible apply s_extT)) | ((with_reducible apply s_ext2T); (· rfl); (· rfl); (· (refine small (k := 100000) ?_; (try simp only [List.length_append, List.length_cons, List.length_nil, List.length_map, List.length_take, List.length_drop, List.length_reverse, List.length_replicate, List.length_range]); omega)); (· (first | (simp only [List.set_cons_succ, List.set_cons_zero]; done) | (simp only [List.set_cons_succ, List.set_cons_zero]; rfl) | rfl))) | ((with_reducible apply s_fdiv); (· omega); (· omega)) | (with_reducible refine s_brT ?_) | (with_reducible refine s_brF ?_) | (with_reducible refine s_brD (fun h => ?_) (fun h => ?_)) | (with_reducible refine s_brN ?_) | (with_reducible refine s_brEq (eqv_nil _) ?_) | (with_reducible refine s_brE (fun h => ?_) (fun h => ?_)) | (with_reducible refine s_brEq (kd_isTuple_tuple _) ?_) | (with_reducible refine s_brEq (kd_isTuple_list _) ?_) | (with_reducible refine s_brEq (kd_isTuple_int _) ?_) | (with_reducible refine s_brEq (kd_isInt_int _) ?_) | (with_reducible refine s_brEq (kd_isInt_bool _) ?_) | (with_reducible refine s_brEq (kd_isInt_tuple _) ?_) | (with_reducible refine s_brEq (kd_isInt_list _) ?_) | (with_reducible refine s_brEq (kd_isInt_str _) ?_) | (with_reducible refine s_brEq (kd_isBool_int _) ?_) | (with_reducible refine s_brEq (kd_isBool_bool _) ?_) | (with_reducible refine s_brEq (kd_isBool_tuple _) ?_) | (with_reducible refine s_brEq (kd_isStr_str _) ?_) | (with_reducible refine s_brEq (kd_isStr_int _) ?_) | (with_reducible refine s_brEq (kd_isList_list _) ?_) | (with_reducible refine s_brEq (kd_isList_tuple _) ?_) | (with_reducible refine s_brEq (kd_non_int _) ?_) | (with_reducible refine s_brEq (kd_non_bool _) ?_) | (with_reducible refine s_brEq (kd_non_str _) ?_) | (with_reducible refine s_brEq (kd_non_tuple _) ?_) | (with_reducible refine s_brEq (kd_non_list _) ?_) | (with_reducible refine s_brEq (kd_isInt_none) ?_) | (with_reducible refine s_brEq (kd_isTuple_none) ?_) | (with_reducible refine s_brEq (kd_non_none) ?_) | (with_reducible refine s_brEq (eqv_int _ _) ?_) | (with_reducible refine s_brEq (eqv_bool _ _) ?_) | (with_reducible refine s_brEq (eqv_str _ _) ?_) | (with_reducible refine s_brEq (eqv_pt _ _) ?_) | (with_reducible refine s_brEq (eqv_pl _ _) ?_) | (with_reducible refine s_brEq (eqv_pto _ _) ?_) | (with_reducible refine s_brEq (beq_tt _) ?_)))
local macro_rules | `(tactic| o_args) => `(tactic| ((with_reducible apply s_nm); (· rfl); (· rfl); (· (first | (simp only [List.set_cons_succ, List.set_cons_zero]; done) | (simp only [List.set_cons_succ, List.set_cons_zero]; rfl) | rfl))))
set_option hygiene true
/-! is_whole -/
def S_is_whole : VSp := fun ds Q _ => ∃ x : PyData, ds = [.fr x] ∧ ∀ ds', Q (.fr (.bool (x.isInt && !x.isBool))) ds'
theorem len_is_whole : ∀ ds Q E, S_is_whole ds Q E → ds.length = 1 := by rintro _ _ _ ⟨_, rfl, _⟩; rfl
abbrev N_is_whole : List Str := ["thing"]
def t_is_whole : DTS := (cRet (cFrz (cAndV (cFn (gIsD "int" PyData.isInt) (cCons (cVar 0) (cCons (cK (.cst (.ty "int"))) cNil))) (cNotV (cFn (gIsD "bool" PyData.isBool) (cCons (cVar 0) (cCons (cK (.cst (.ty "bool"))) cNil)))))))
theorem r_is_whole : ∀ ds Q0 E0, S_is_whole ds Q0 E0 → t_is_whole (dEnds Q0) (ds ++ List.replicate (N_is_whole.length - 1) .gone) := by
  rintro ds Q0 E0 ⟨x, rfl, q⟩
  simp only [N_is_whole, List.length_cons, List.length_nil, List.cons_append, List.nil_append, Nat.reduceAdd, Nat.reduceSub, Nat.zero_add, List.replicate_succ, List.replicate_zero]; unfold t_is_whole
  o_attr
  refine s_br (fun h => ?_) (fun h => ?_)
  · o_attr
    rw [h, Bool.true_and] at q
    exact q _
  · o_attr
    rw [h, Bool.false_and] at q
    exact q _
/-! is_within -/
def S_is_within : VSp := fun ds Q _ => ∃ (x : PyData) (lo hi : Int), ds = [.fr x, .fr (.int lo), .fr (.int hi)] ∧ ∀ ds', Q (.fr (.bool (withinD x lo hi))) ds'
theorem len_is_within : ∀ ds Q E, S_is_within ds Q E → ds.length = 3 := by rintro _ _ _ ⟨_, _, _, rfl, _⟩; rfl
abbrev N_is_within : List Str := ["thing", "low", "high"]
def t_is_within : DTS := (cRet (cFrz (cAndV (cCall [] S_is_whole (cCons (cVar 0) cNil)) (cCh kleb kleb (cVar 1) (cVar 0) (cVar 2)))))
theorem r_is_within : ∀ ds Q0 E0, S_is_within ds Q0 E0 → t_is_within (dEnds Q0) (ds ++ List.replicate (N_is_within.length - 3) .gone) := by
  rintro ds Q0 E0 ⟨x, lo, hi, rfl, q⟩
  simp only [N_is_within, List.length_cons, List.length_nil, List.cons_append, List.nil_append, Nat.reduceAdd, Nat.reduceSub, Nat.zero_add, List.replicate_succ, List.replicate_zero]; unfold t_is_within
  o_attr
  refine ⟨x, rfl, fun ds' => ?_⟩
  o_attr
  cases x with
  | int i =>
    refine s_brEq (c := true) rfl ?_
    o_attr
    · rw [show kleb i hi = withinD (.int i) lo hi by simp [withinD, h]]
      exact q _
    · rw [show false = withinD (.int i) lo hi by simp [withinD, h]]
      exact q _
  | _ =>
    refine s_brEq (c := false) rfl ?_
    o_attr
    exact q _
/-! is_over -/
def S_is_over : VSp := fun ds Q _ => ∃ xs ys : List Int, xs.length ≤ 10 ∧ ys.length ≤ 10 ∧ ds = [.fr (pt xs), .fr (pt ys)] ∧ ∀ ds', Q (.fr (.bool (isover xs ys))) ds'
theorem len_is_over : ∀ ds Q E, S_is_over ds Q E → ds.length = 2 := by rintro _ _ _ ⟨_, _, _, _, rfl, _⟩; rfl
abbrev N_is_over : List Str := ["one", "other", "here", "there"]
def t_is_over : DTS := (cRet (cFn (g1 (gBools kAll)) (cCons (cLc [] [2, 3] (cZip2 (cCons (cVar 0) (cCons (cVar 1) cNil))) (gTu 2 (gsCons (gNm 2) (gsCons (gNm 3) gsNil))) cYes (c2 (kGe) (cVar 2) (cVar 3))) cNil)))
theorem r_is_over : ∀ ds Q0 E0, S_is_over ds Q0 E0 → t_is_over (dEnds Q0) (ds ++ List.replicate (N_is_over.length - 2) .gone) := by
  rintro ds Q0 E0 ⟨xs, ys, hx, hy, rfl, q⟩
  simp only [N_is_over, List.length_cons, List.length_nil, List.cons_append, List.nil_append, Nat.reduceAdd, Nat.reduceSub, Nat.zero_add, List.replicate_succ, List.replicate_zero]; unfold t_is_over
  o_attr
  refine s_lcMap (xs.zip ys) _ (fun p => some (.bool (decide (p.2 ≤ p.1)))) (zip_ints xs ys) rfl rfl ⟨rfl, rfl⟩ (by rw [List.length_zip]; exact small (k := 10) (by omega)) (fun p _ K hK => ?_) ?_
  · o_norm
    exact hK
  · o_attr
    refine s_bools ((xs.zip ys).map fun p => decide (p.2 ≤ p.1)) rfl (by rw [fmap_some, List.map_map]; rfl) ?_
    o_attr
    have e : kAll ((xs.zip ys).map fun p => decide (p.2 ≤ p.1)) = isover xs ys := by
      unfold kAll isover
      rw [List.all_map]; rfl
    rw [e]
    exact q _
/-! does_beat -/
def S_does_beat : VSp := fun ds Q _ => ∃ xs ys : List Int, xs.length ≤ 10 ∧ ys.length ≤ 10 ∧ ds = [.fr (pt xs), .fr (pt ys)] ∧ ∀ ds', Q (.fr (.bool (beats xs ys))) ds'
theorem len_does_beat : ∀ ds Q E, S_does_beat ds Q E → ds.length = 2 := by rintro _ _ _ ⟨_, _, _, _, rfl, _⟩; rfl
abbrev N_does_beat : List Str := ["one", "other"]
def t_does_beat : DTS := (cRet (cFrz (cAndV (c2 (gEq true) (cVar 0) (cVar 1)) (cCall [] S_is_over (cCons (cVar 0) (cCons (cVar 1) cNil))))))
theorem r_does_beat : ∀ ds Q0 E0, S_does_beat ds Q0 E0 → t_does_beat (dEnds Q0) (ds ++ List.replicate (N_does_beat.length - 2) .gone) := by
  rintro ds Q0 E0 ⟨xs, ys, hx, hy, rfl, q⟩
  simp only [N_does_beat, List.length_cons, List.length_nil, List.cons_append, List.nil_append, Nat.reduceAdd, Nat.reduceSub, Nat.zero_add, List.replicate_succ, List.replicate_zero]; unfold t_does_beat
  o_attr
  · have : beats xs ys = false := by simp [beats, h]
    rw [← this]; exact q _
  · refine ⟨xs, ys, hx, hy, rfl, fun ds' => ?_⟩
    o_attr
    have : beats xs ys = isover xs ys := by simp [beats, h]
    rw [← this]; exact q _
/-! is_rising -/
def S_is_rising : VSp := fun ds Q _ => ∃ (xs : List Int) (n : Int), xs.length ≤ 1000 ∧ ds = [.fr (pt xs), .fr (.int n)] ∧ ∀ ds', Q (.fr (.bool (rises xs n))) ds'
theorem len_is_rising : ∀ ds Q E, S_is_rising ds Q E → ds.length = 2 := by rintro _ _ _ ⟨_, _, _, rfl, _⟩; rfl
abbrev N_is_rising : List Str := ["numbers", "many", "number", "ahead", "behind"]
def t_is_rising : DTS := (cSeq (cIfS (cNot (cTst (cFn (g1 (gBools kAll)) (cCons (cLc [] [2] (cSeqI (cVar 0)) (gNm 2) cYes (cFrz (cCall [] S_is_within (cCons (cVar 2) (cCons (cK (.fr (.int 0))) (cCons (c2 kSub (cVar 1) (cK (.fr (.int 1)))) cNil)))))) cNil)))) (cRet (cK (.fr (.bool false)))) cNext) (cRet (cFn (g1 (gBools kAll)) (cCons (cLc [] [3, 4] (cZip2 (cCons (cVar 0) (cCons (cFrz (cSl (cVar 0) (cPt (cK (.fr (.int 1)))) cNoP)) cNil))) (gTu 2 (gsCons (gNm 3) (gsCons (gNm 4) gsNil))) cYes (c2 (kLt) (cVar 3) (cVar 4))) cNil))))
theorem r_is_rising : ∀ ds Q0 E0, S_is_rising ds Q0 E0 → t_is_rising (dEnds Q0) (ds ++ List.replicate (N_is_rising.length - 2) .gone) := by
  rintro ds Q0 E0 ⟨xs, n, hx, rfl, q⟩
  simp only [N_is_rising, List.length_cons, List.length_nil, List.cons_append, List.nil_append, Nat.reduceAdd, Nat.reduceSub, Nat.zero_add, List.replicate_succ, List.replicate_zero]; unfold t_is_rising
  o_attr
  apply s_lcMap xs .int (fun x => some (.bool (withinD (.int x) 0 (n - 1)))) rfl; (· (first | (simp only [wipeD, List.set_cons_zero, List.set_cons_succ]; done) | (simp only [wipeD, List.set_cons_zero, List.set_cons_succ]; rfl))); (· (first | (simp only [rst, List.set_cons_zero, List.set_cons_succ, Option.getD_some, List.getElem?_cons_zero, List.getElem?_cons_succ]; done) | (simp only [rst, List.set_cons_zero, List.set_cons_succ, Option.getD_some, List.getElem?_cons_zero, List.getElem?_cons_succ]; rfl)))
  · trivial
  · exact small hx
  · intro x _ K hK
    o_norm
    refine ⟨.int x, 0, n - 1, rfl, fun ds' => ?_⟩
    o_attr
    exact hK
  rw [fmap_some]
  o_attr
  refine s_bools (xs.map fun x => withinD (.int x) 0 (n - 1)) rfl (by rw [List.map_map]; rfl) ?_
  rw [show kAll (xs.map fun x => withinD (.int x) 0 (n - 1)) = xs.all fun x => withinD (.int x) 0 (n - 1) from all_of _ _]
  o_attr
  refine s_br (fun h => ?_) (fun h => ?_)
  · o_attr
    have e1 : cut (List.map PyData.int xs) (some 1) none = (xs.drop 1).map .int := by rw [List.map_drop]; exact cut_drop (k := 1) _
    rw [e1]
    o_attr
    apply s_lcMap (xs.zip (xs.drop 1)) _ (fun p => some (.bool (decide (p.1 < p.2)))) (zip_ints xs (xs.drop 1)); (· (first | (simp only [wipeD, List.set_cons_zero, List.set_cons_succ]; done) | (simp only [wipeD, List.set_cons_zero, List.set_cons_succ]; rfl))); (· (first | (simp only [rst, List.set_cons_zero, List.set_cons_succ, Option.getD_some, List.getElem?_cons_zero, List.getElem?_cons_succ]; done) | (simp only [rst, List.set_cons_zero, List.set_cons_succ, Option.getD_some, List.getElem?_cons_zero, List.getElem?_cons_succ]; rfl)))
    · exact ⟨rfl, rfl⟩
    · rw [List.length_zip]; exact small (k := 1000) (by omega)
    · intro p _ K hK
      o_norm
      exact hK
    rw [fmap_some]
    o_attr
    refine s_bools ((xs.zip (xs.drop 1)).map fun p => decide (p.1 < p.2)) rfl (by rw [List.map_map]; rfl) ?_
    rw [show kAll ((xs.zip (xs.drop 1)).map fun p => decide (p.1 < p.2)) = rises xs n by unfold rises; rw [h, Bool.true_and]; exact all_of _ _]
    o_attr
    exact q _
  · o_attr
    rw [show rises xs n = false by unfold rises; rw [h, Bool.false_and]] at q
    exact q _
/-! is_row -/
def S_is_row : VSp := fun ds Q _ => ∃ (m : Int) (ps : List (List Int)) (row : List Int), Pts ps ∧ row.length ≤ 1000 ∧ ds = [.fr (.tuple [.int m, pts ps]), .fr (pt row)] ∧ ∀ ds', Q (.fr (.bool (rowOk ps row))) ds'
theorem len_is_row : ∀ ds Q E, S_is_row ds Q E → ds.length = 2 := by rintro _ _ _ ⟨_, _, _, _, _, rfl, _⟩; rfl
abbrev N_is_row : List Str := ["book", "thing", "points", "number", "one", "other"]
def t_is_row : DTS := (cSeq (cAsg (c2 gIx (cVar 0) (cK (.fr (.int 1)))) (gNm 2)) (cSeq (cIfS (cNot (cTst (cFn (g1 (gBools kAll)) (cCons (cLc [] [3] (cSeqI (cVar 1)) (gNm 3) cYes (cFrz (cCall [] S_is_within (cCons (cVar 3) (cCons (cK (.fr (.int 0))) (cCons (c2 kSub (cFn (g1 gLen) (cCons (cVar 2) cNil)) (cK (.fr (.int 1)))) cNil)))))) cNil)))) (cRet (cK (.fr (.bool false)))) cNext) (cRet (cFn (g1 (gBools kAll)) (cCons (cLc [] [4, 5] (cZip2 (cCons (cVar 1) (cCons (cFrz (cSl (cVar 1) (cPt (cK (.fr (.int 1)))) cNoP)) cNil))) (gTu 2 (gsCons (gNm 4) (gsCons (gNm 5) gsNil))) cYes (cFrz (cCall [] S_does_beat (cCons (c2 gIx (cVar 2) (cVar 4)) (cCons (c2 gIx (cVar 2) (cVar 5)) cNil))))) cNil)))))
theorem r_is_row : ∀ ds Q0 E0, S_is_row ds Q0 E0 → t_is_row (dEnds Q0) (ds ++ List.replicate (N_is_row.length - 2) .gone) := by
  rintro ds Q0 E0 ⟨m, ps, row, hp, hr, rfl, q⟩
  simp only [N_is_row, List.length_cons, List.length_nil, List.cons_append, List.nil_append, Nat.reduceAdd, Nat.reduceSub, Nat.zero_add, List.replicate_succ, List.replicate_zero]; unfold t_is_row
  o_attr
  o_args
  have hlen : (List.map pt ps).length = ps.length := List.length_map _
  o_attr
  apply s_lcMap row .int (fun x => some (.bool (withinD (.int x) 0 ((ps.length : Int) - 1)))) rfl; (· (first | (simp only [wipeD, List.set_cons_zero, List.set_cons_succ]; done) | (simp only [wipeD, List.set_cons_zero, List.set_cons_succ]; rfl))); (· (first | (simp only [rst, List.set_cons_zero, List.set_cons_succ, Option.getD_some, List.getElem?_cons_zero, List.getElem?_cons_succ]; done) | (simp only [rst, List.set_cons_zero, List.set_cons_succ, Option.getD_some, List.getElem?_cons_zero, List.getElem?_cons_succ]; rfl)))
  · trivial
  · exact small hr
  · intro x hx K hK
    o_norm
    refine ⟨_, _, _, rfl, fun ds' => ?_⟩
    o_attr
    rw [hlen]
    exact hK
  · o_attr
    refine s_bools (row.map fun x => withinD (.int x) 0 ((ps.length : Int) - 1)) rfl (by rw [fmap_some, List.map_map]; rfl) ?_
    o_attr
    refine s_br (fun h => ?_) (fun h => ?_)
    · o_attr
      have e1 : cut (List.map PyData.int row) (some 1) none = (row.drop 1).map .int := by rw [List.map_drop]; exact cut_drop (k := 1) _
      rw [e1]
      o_attr
      have hin : ∀ x ∈ row, 0 ≤ x ∧ x.toNat < ps.length := fun x hx => by
        have := List.all_eq_true.mp h _ (List.mem_map.mpr ⟨x, hx, rfl⟩)
        simp only [withinD, id, Bool.and_eq_true, decide_eq_true_eq] at this
        omega
      apply s_lcMap (row.zip (row.drop 1)) _ (fun p => some (.bool (beats (ps.getD p.1.toNat []) (ps.getD p.2.toNat [])))) (zip_ints _ _); (· (first | (simp only [wipeD, List.set_cons_zero, List.set_cons_succ]; done) | (simp only [wipeD, List.set_cons_zero, List.set_cons_succ]; rfl))); (· (first | (simp only [rst, List.set_cons_zero, List.set_cons_succ, Option.getD_some, List.getElem?_cons_zero, List.getElem?_cons_succ]; done) | (simp only [rst, List.set_cons_zero, List.set_cons_succ, Option.getD_some, List.getElem?_cons_zero, List.getElem?_cons_succ]; rfl)))
      · exact ⟨rfl, rfl⟩
      · rw [List.length_zip]; exact small (k := 1000) (by omega)
      · intro p hpm K hK
        obtain ⟨h1, h2⟩ := List.of_mem_zip hpm
        obtain ⟨a1, a2⟩ := hin _ h1
        obtain ⟨b1, b2⟩ := hin _ (List.mem_of_mem_drop h2)
        o_norm
        refine s_ixT rfl (x := pt (ps.getD p.1.toNat [])) (by rw [atI_int a1 (by omega), List.getElem?_map, List.getElem?_eq_getElem a2, List.getD_eq_getElem?_getD, List.getElem?_eq_getElem a2]; rfl) ?_
        o_attr
        refine s_ixT rfl (x := pt (ps.getD p.2.toNat [])) (by rw [atI_int b1 (by omega), List.getElem?_map, List.getElem?_eq_getElem b2, List.getD_eq_getElem?_getD, List.getElem?_eq_getElem b2]; rfl) ?_
        o_attr
        refine ⟨_, _, Pts.at_ hp a2, Pts.at_ hp b2, rfl, fun ds' => ?_⟩
        o_attr
        exact hK
      · o_attr
        refine s_bools ((row.zip (row.drop 1)).map fun p => beats (ps.getD p.1.toNat []) (ps.getD p.2.toNat [])) rfl (by rw [fmap_some, List.map_map]; rfl) ?_
        o_attr
        have e : kAll ((row.zip (row.drop 1)).map fun p => beats (ps.getD p.1.toNat []) (ps.getD p.2.toNat [])) = rowOk ps row := by
          have h' : (row.all fun x => withinD (.int x) 0 ((ps.length : Int) - 1)) = true := by
            have : kAll (row.map fun x => withinD (.int x) 0 ((ps.length : Int) - 1)) = true := h
            unfold kAll at this
            rw [List.all_map] at this
            exact this
          unfold rowOk kAll
          rw [List.all_map, h', Bool.true_and]
          rfl
        rw [e]
        exact q _
    · o_attr
      have e : rowOk ps row = false := by
        have : kAll (row.map fun x => withinD (.int x) 0 ((ps.length : Int) - 1)) = false := h
        unfold kAll at this
        rw [List.all_map] at this
        unfold rowOk
        rw [show (row.all fun x => withinD (.int x) 0 ((ps.length : Int) - 1)) = false from this, Bool.false_and]
      rw [← e]
      exact q _
/-! are_apart -/
--I X18
def S_are_apart : VSp := fun ds Q _ => ∃ (ps : List (List Int)) (some : List Int), Pts ps ∧ some.length ≤ 100 ∧ (∀ x ∈ some, 0 ≤ x ∧ x.toNat < ps.length) ∧ ds = [.fr (pts ps), .fr (pt some)] ∧ ∀ ds', Q (.fr (.bool (!clashB ps some))) ds'
theorem len_are_apart : ∀ ds Q E, S_are_apart ds Q E → ds.length = 2 := by rintro _ _ _ ⟨_, _, _, _, _, rfl, _⟩; rfl
abbrev N_are_apart : List Str := ["points", "some", "one", "other"]
def t_are_apart : DTS := (cRet (cNotV (cFn (g1 (gBools kAny)) (cCons (cLc [] [2] (cSeqI (cVar 1)) (gNm 2) cYes (cFn (g1 (gBools kAny)) (cCons (cLc [] [3] (cSeqI (cVar 1)) (gNm 3) cYes (cFrz (cCall [] S_does_beat (cCons (c2 gIx (cVar 0) (cVar 2)) (cCons (c2 gIx (cVar 0) (cVar 3)) cNil))))) cNil))) cNil))))
theorem r_are_apart : ∀ ds Q0 E0, S_are_apart ds Q0 E0 → t_are_apart (dEnds Q0) (ds ++ List.replicate (N_are_apart.length - 2) .gone) := by
  rintro ds Q0 E0 ⟨ps, some, hp, hs, hin, rfl, q⟩
  simp only [N_are_apart, List.length_cons, List.length_nil, List.cons_append, List.nil_append, Nat.reduceAdd, Nat.reduceSub, Nat.zero_add, List.replicate_succ, List.replicate_zero]; unfold t_are_apart
  o_attr
  apply s_lcMap some .int (fun x => Option.some (.bool (some.any fun b => beats (ps.getD x.toNat []) (ps.getD b.toNat [])))) rfl; (· (first | (simp only [wipeD, List.set_cons_zero, List.set_cons_succ]; done) | (simp only [wipeD, List.set_cons_zero, List.set_cons_succ]; rfl))); (· (first | (simp only [rst, List.set_cons_zero, List.set_cons_succ, Option.getD_some, List.getElem?_cons_zero, List.getElem?_cons_succ]; done) | (simp only [rst, List.set_cons_zero, List.set_cons_succ, Option.getD_some, List.getElem?_cons_zero, List.getElem?_cons_succ]; rfl)))
  · trivial
  · exact small (k := 100) hs
  · intro x hx K hK
    o_norm
    apply s_lcMap some .int (fun y => Option.some (.bool (beats (ps.getD x.toNat []) (ps.getD y.toNat [])))) rfl; (· (first | (simp only [wipeD, List.set_cons_zero, List.set_cons_succ]; done) | (simp only [wipeD, List.set_cons_zero, List.set_cons_succ]; rfl))); (· (first | (simp only [rst, List.set_cons_zero, List.set_cons_succ, Option.getD_some, List.getElem?_cons_zero, List.getElem?_cons_succ]; done) | (simp only [rst, List.set_cons_zero, List.set_cons_succ, Option.getD_some, List.getElem?_cons_zero, List.getElem?_cons_succ]; rfl)))
    · trivial
    · exact small (k := 100) hs
    · intro y hy K2 hK2
      obtain ⟨a1, a2⟩ := hin x hx
      obtain ⟨b1, b2⟩ := hin y hy
      o_norm
      refine s_ixT rfl (ptsAtI a1 (by omega)) ?_
      o_attr
      refine s_ixT rfl (ptsAtI b1 (by omega)) ?_
      o_attr
      refine ⟨_, _, hp.at_ a2, hp.at_ b2, rfl, fun ds' => ?_⟩
      o_attr
      exact hK2
    rw [fmap_some]
    o_attr
    refine s_bools (some.map fun y => beats (ps.getD x.toNat []) (ps.getD y.toNat [])) rfl (by rw [List.map_map]; rfl) ?_
    rw [show kAny (some.map fun y => beats (ps.getD x.toNat []) (ps.getD y.toNat [])) = some.any fun b => beats (ps.getD x.toNat []) (ps.getD b.toNat []) from any_of _ _]
    o_attr
    exact hK
  rw [fmap_some]
  o_attr
  refine s_bools (some.map fun x => some.any fun b => beats (ps.getD x.toNat []) (ps.getD b.toNat [])) rfl (by rw [List.map_map]; rfl) ?_
  rw [show kAny (some.map fun x => some.any fun b => beats (ps.getD x.toNat []) (ps.getD b.toNat [])) = clashB ps some from any_of _ _]
  o_attr
  exact q _
/-! spread_right -/
--I X18
def S_spread_right : VSp := fun ds Q _ => ∃ (m : Int) (ps : List (List Int)) (some : List Int) (rows : List (List Int)), Pts ps ∧ some.length ≤ 60 ∧ rows.length ≤ 100 ∧ (∀ r ∈ rows, r.length ≤ 200) ∧ ds = [.fr (.tuple [.int m, pts ps]), .fr (pt some), .fr (pts rows)] ∧ ∀ ds', Q (.fr (.bool (spreadB ps some rows))) ds'
theorem len_spread_right : ∀ ds Q E, S_spread_right ds Q E → ds.length = 3 := by rintro _ _ _ ⟨_, _, _, _, _, _, _, _, rfl, _⟩; rfl
abbrev N_spread_right : List Str := ["book", "some", "rows", "points", "numbers", "row"]
def t_spread_right : DTS := (cSeq (cAsg (c2 gIx (cVar 0) (cK (.fr (.int 1)))) (gNm 3)) (cSeq (cIfS (cOr (cNot (cTst (cCall [] S_is_rising (cCons (cVar 1) (cCons (cFn (g1 gLen) (cCons (cVar 3) cNil)) cNil))))) (cOr (cTst (c2 (gEq true) (cFn (g1 gLen) (cCons (cVar 2) cNil)) (cFn (g1 gLen) (cCons (cVar 1) cNil)))) (cNot (cTst (cCall [] S_are_apart (cCons (cVar 3) (cCons (cVar 1) cNil))))))) (cRet (cK (.fr (.bool false)))) cNext) (cSeq (cIfS (cNot (cTst (cFn (g1 (gBools kAll)) (cCons (cLc [] [5] (cSeqI (cVar 2)) (gNm 5) cYes (cFrz (cAndV (c2 (gEq true) (cVar 5) (cTup cNil)) (cCall [] S_is_row (cCons (cVar 0) (cCons (cVar 5) cNil)))))) cNil)))) (cRet (cK (.fr (.bool false)))) cNext) (cSeq (cAsg (cLst cNil) (gNm 4)) (cSeq (cFor [] (cSeqI (cVar 2)) (gNm 5) (cDrop (cExtT (cVar 4) (cCons (cVar 5) cNil)))) (cRet (c2 (gEq false) (cFn (g1 gSrt) (cCons (cVar 4) cNil)) (cLsR (cRgA (cFn (g1 gLen) (cCons (cVar 3) cNil)))))))))))
theorem flat_len {rows : List (List Int)} (h : ∀ r ∈ rows, r.length ≤ 200) : rows.flatten.length ≤ 200 * rows.length := by
  induction rows with
  | nil => exact Nat.zero_le _
  | cons r rows ih =>
    have h1 := h r List.mem_cons_self
    have h2 := ih fun x hx => h x (List.mem_cons_of_mem _ hx)
    rw [List.flatten_cons, List.length_append, List.length_cons]
    omega
theorem r_spread_right : ∀ ds Q0 E0, S_spread_right ds Q0 E0 → t_spread_right (dEnds Q0) (ds ++ List.replicate (N_spread_right.length - 3) .gone) := by
  rintro ds Q0 E0 ⟨m, ps, some, rows, hp, hs, hr, hrl, rfl, q⟩
  have hpl : (List.map pt ps).length = ps.length := List.length_map _
  have hsl : (some.map PyData.int).length = some.length := List.length_map _
  have hrw : (List.map pt rows).length = rows.length := List.length_map _
  simp only [N_spread_right, List.length_cons, List.length_nil, List.cons_append, List.nil_append, Nat.reduceAdd, Nat.reduceSub, Nat.zero_add, List.replicate_succ, List.replicate_zero]; unfold t_spread_right
  o_attr
  o_args
  o_attr
  rw [hpl]
  refine ⟨some, _, by omega, rfl, fun ds' => ?_⟩
  unfold spreadB at q
  o_attr
  refine s_br (fun h1 => ?_) (fun h1 => ?_)
  · rw [h1, Bool.true_and] at q
    have hin : ∀ x ∈ some, 0 ≤ x ∧ x.toNat < ps.length := fun x hx => by
      have := rises_in h1 x hx
      omega
    o_attr
    · have h2 : rows.length = some.length := by omega
      rw [decide_eq_true h2, Bool.true_and] at q
      refine ⟨ps, some, hp, by omega, hin, rfl, fun ds' => ?_⟩
      o_attr
      refine s_br (fun h3 => ?_) (fun h3 => ?_)
      · rw [h3, Bool.not_true, Bool.false_and] at q
        o_attr
        exact q _
      · rw [h3, Bool.not_false, Bool.true_and] at q
        o_attr
        apply s_lcMap rows pt (fun r => Option.some (.bool (decide (r ≠ []) && rowOk ps r))) rfl; (· (first | (simp only [wipeD, List.set_cons_zero, List.set_cons_succ]; done) | (simp only [wipeD, List.set_cons_zero, List.set_cons_succ]; rfl))); (· (first | (simp only [rst, List.set_cons_zero, List.set_cons_succ, Option.getD_some, List.getElem?_cons_zero, List.getElem?_cons_succ]; done) | (simp only [rst, List.set_cons_zero, List.set_cons_succ, Option.getD_some, List.getElem?_cons_zero, List.getElem?_cons_succ]; rfl)))
        · trivial
        · exact small (k := 100) hr
        · intro r hrm K hK
          by_cases e : r = []
          · subst e
            o_norm
            exact hK
          · rw [decide_eq_true e, Bool.true_and] at hK
            o_norm
            rw [show PyData.eqv (pt r) (.tuple []) = decide (r = []) from eqv_pt r [], decide_eq_false e]
            o_attr
            refine ⟨m, ps, r, hp, Nat.le_trans (hrl r hrm) (by decide), rfl, fun ds' => ?_⟩
            o_attr
            exact hK
        rw [fmap_some]
        o_attr
        refine s_bools (rows.map fun r => decide (r ≠ []) && rowOk ps r) rfl (by rw [List.map_map]; rfl) ?_
        rw [show kAll (rows.map fun r => decide (r ≠ []) && rowOk ps r) = rows.all fun r => decide (r ≠ []) && rowOk ps r from all_of _ _]
        o_attr
        refine s_br (fun h4 => ?_) (fun h4 => ?_)
        · rw [h4, Bool.true_and] at q
          o_norm
          refine s_forMap rows pt (fun l' st => ∃ (pre : List (List Int)) (d5 : Vl), rows = pre ++ l' ∧ st = [.fr (.tuple [.int m, pts ps]), .fr (pt some), .fr (pts rows), .fr (pts ps), .ow (pre.flatten.map .int), d5]) rfl trivial ⟨[], _, rfl, rfl⟩ ?_ ?_
          · rintro r l' st ⟨pre, d5, hpre, rfl⟩ K hK
            have hfl := flat_len (rows := pre) fun x hx => hrl x (by rw [hpre]; exact List.mem_append_left _ hx)
            have hrr := hrl r (by rw [hpre]; simp)
            have hpr : pre.length ≤ 100 := by rw [hpre, List.length_append] at hr; omega
            o_norm
            refine ⟨_, _, rfl, rfl, ?_⟩
            o_norm
            exact hK _ ⟨pre ++ [r], _, by rw [hpre, List.append_assoc]; rfl, by rw [List.flatten_append, List.map_append, List.flatten_singleton]⟩ trivial
          · rintro st ⟨pre, d5, hpre, rfl⟩
            rw [List.append_nil] at hpre
            subst hpre
            o_attr
            refine s_srtI rows.flatten rfl ?_
            o_attr
            rw [hpl, rngN]
            rw [show (List.range ps.length).map (fun (i : Nat) => PyData.int (i : Int)) = (rngL ps.length).map .int by unfold rngL; rw [List.map_map]; rfl]
            have hp1 := hp.1
            refine ⟨RgOk.of_le (by omega) (by omega) (by omega) (by omega), ?_⟩
            o_attr
            rw [show PyData.eqv (.list ((rows.flatten.mergeSort fun a b => decide (a ≤ b)).map .int)) (.list ((rngL ps.length).map .int)) = decide (srt rows.flatten = rngL ps.length) from eqv_pl _ _]
            exact q _
        · rw [h4, Bool.false_and] at q
          o_attr
          exact q _
    · have h2 : ¬ rows.length = some.length := by omega
      rw [decide_eq_false h2, Bool.false_and] at q
      exact q _
  · rw [h1, Bool.false_and] at q
    o_attr
    exact q _
/-! _law_pool -/
def S__law_pool : VSp := fun ds Q _ => ∃ cell : Int, ds = [.fr (.int cell)] ∧ ∀ l ds', Pot 0 l → Q (.ow l) ds'
theorem len__law_pool : ∀ ds Q E, S__law_pool ds Q E → ds.length = 1 := by rintro _ _ _ ⟨_, rfl, _⟩; rfl
abbrev N__law_pool : List Str := ["cell"]
def t__law_pool : DTS := (cRet (cLst (cCons (cFn (g2I fun i j => max i j) (cCons (cK (.fr (.int 0))) (cCons (c2 kSub (cVar 0) (c2 kPow (cK (.fr (.int 10))) (cK (.fr (.int 18))))) cNil))) (cCons (c2 kMod (cVar 0) (cK (.fr (.int 1000000007)))) (cCons (cK (.fr (.int 0))) cNil)))))
theorem r__law_pool : ∀ ds Q0 E0, S__law_pool ds Q0 E0 → t__law_pool (dEnds Q0) (ds ++ List.replicate (N__law_pool.length - 1) .gone) := by
  rintro ds Q0 E0 ⟨cell, rfl, q⟩
  simp only [N__law_pool, List.length_cons, List.length_nil, List.cons_append, List.nil_append, Nat.reduceAdd, Nat.reduceSub, Nat.zero_add, List.replicate_succ, List.replicate_zero]; unfold t__law_pool
  o_norm
  have h := modb (x := cell) (p := 1000000007) (by decide)
  exact q _ _ ⟨_, _, 0, rfl, by omega, h.1, by omega, by omega, by omega⟩
/-! _law_next -/
def S__law_next : VSp := fun ds Q _ => ∃ l n many, Pot n l ∧ n < 2 ^ 40 ∧ 0 < many ∧ many < 2 ^ 40 ∧ ds = [.ow l, .fr (.int many)] ∧ ∀ l' x ds', Pot (n + 1) l' → 0 ≤ x → x < many → ds'[0]? = some (.ow l') → Q (.fr (.int x)) ds'
theorem len__law_next : ∀ ds Q E, S__law_next ds Q E → ds.length = 2 := by rintro _ _ _ ⟨_, _, _, _, _, _, _, rfl, _⟩; rfl
abbrev N__law_next : List Str := ["pool", "base", "digit", "turn", "near", "stir"]
def t__law_next : DTS := (cSeq (cIfS (cTst (c2 (kGt) (c2 gIx (cVar 0) (cK (.fr (.int 0)))) (cK (.fr (.int 0))))) (cSeq (cAsg (c2 kMod (c2 gIx (cVar 0) (cK (.fr (.int 0)))) (cVar 1)) (gNm 2)) (cSeq (cAsg (c2 kFdiv (c2 gIx (cVar 0) (cK (.fr (.int 0)))) (cVar 1)) (gSub (cVar 0) (cK (.fr (.int 0))))) (cRet (cVar 2)))) cNext) (cSeq (cAsg (c2 gAdd (c2 gIx (cVar 0) (cK (.fr (.int 2)))) (cK (.fr (.int 1)))) (gNm 3)) (cSeq (cAsg (cVar 3) (gSub (cVar 0) (cK (.fr (.int 2))))) (cSeq (cAsg (c2 kMod (c2 gAdd (c2 gAdd (c2 gAdd (c2 gIx (cVar 0) (cK (.fr (.int 1)))) (c2 kMul (c2 kMul (c2 kMul (cK (.fr (.int 7919))) (cVar 3)) (cVar 3)) (cVar 3))) (c2 kMul (cK (.fr (.int 104729))) (cVar 3))) (cK (.fr (.int 11)))) (cK (.fr (.int 998244353)))) (gNm 4)) (cSeq (cAsg (c2 kMod (c2 kMul (c2 kMod (c2 kMul (cVar 4) (cVar 4)) (cK (.fr (.int 2147483629)))) (cVar 4)) (cK (.fr (.int 2147483647)))) (gNm 5)) (cRet (c2 kMod (c2 kFdiv (c2 kMod (c2 gAdd (c2 kMul (cVar 5) (cK (.fr (.int 48271)))) (c2 kMul (cK (.fr (.int 69621))) (cVar 3))) (cK (.fr (.int 1000000009)))) (cK (.fr (.int 8)))) (cVar 1))))))))
theorem r__law_next : ∀ ds Q0 E0, S__law_next ds Q0 E0 → t__law_next (dEnds Q0) (ds ++ List.replicate (N__law_next.length - 2) .gone) := by
  rintro ds Q0 E0 ⟨l, n, many, ⟨a, b, c, rfl, ha, hb, hb2, hc, hcn⟩, hn, hm, hm2, rfl, q⟩
  simp only [N__law_next, List.length_cons, List.length_nil, List.cons_append, List.nil_append, Nat.reduceAdd, Nat.reduceSub, Nat.zero_add, List.replicate_succ, List.replicate_zero]; unfold t__law_next
  o_attr
  · refine s_nmI (fun x => 0 ≤ x ∧ x < many) rfl (modb hm) fun x hx => ?_
    o_attr
    exact q _ x _ ⟨a / many, b, c, rfl, Int.ediv_nonneg ha (by omega), hb, hb2, hc, by omega⟩ hx.1 hx.2 rfl
  · o_args
    o_attr
    refine s_nmI (fun x => 0 ≤ x ∧ x < 998244353) rfl (modb (by decide)) fun x hx => ?_
    o_attr
    refine s_nmI (fun x => 0 ≤ x ∧ x < 2147483647) rfl (modb (by decide)) fun y hy => ?_
    o_attr
    exact q _ _ _ ⟨a, b, c + 1, rfl, ha, hb, hb2, by omega, by omega⟩ (modb hm).1 (modb hm).2 rfl
/-! _law_folded -/
def S__law_folded : VSp := fun ds Q _ => ∃ (ns : List Int) (most : Nat), ns.length ≤ 63 ∧ 1 ≤ most ∧ most ≤ 62 ∧ ds = [.scr ns, .fr (.int (most : Nat))] ∧ ∀ (r : List Int) ds', r.length ≤ most → Q (.fr (pl r)) ds'
theorem len__law_folded : ∀ ds Q E, S__law_folded ds Q E → ds.length = 2 := by rintro _ _ _ ⟨_, _, _, _, _, rfl, _⟩; rfl
abbrev N__law_folded : List Str := ["script", "most", "cells", "k"]
def t__law_folded : DTS := (cSeq (cAsg (c2 gRepA (cLst (cCons (cK (.fr (.int 0))) cNil)) (cVar 1)) (gNm 2)) (cSeq (cFor [] (cRng1 (cCons (cFn (g1 gLen) (cCons (cVar 0) cNil)) cNil)) (gNm 3) (cAsg (c2 gAdd (c2 kMul (c2 kMod (c2 gIx (cVar 2) (c2 kMod (cVar 3) (cVar 1))) (c2 kPow (cK (.fr (.int 10))) (cK (.fr (.int 64))))) (cK (.fr (.int 1000003)))) (c2 gIx (cVar 0) (cVar 3))) (gSub (cVar 2) (c2 kMod (cVar 3) (cVar 1))))) (cRet (cFrz (cSl (cVar 2) cNoP (cPt (cFn (g2I fun i j => min i j) (cCons (cFn (g1 gLen) (cCons (cVar 0) cNil)) (cCons (cVar 1) cNil)))))))))
theorem r__law_folded : ∀ ds Q0 E0, S__law_folded ds Q0 E0 → t__law_folded (dEnds Q0) (ds ++ List.replicate (N__law_folded.length - 2) .gone) := by
  rintro ds Q0 E0 ⟨ns, most, hn, hm, hm62, rfl, q⟩
  have hnl : (List.map PyData.int ns).length = ns.length := List.length_map _
  simp only [N__law_folded, List.length_cons, List.length_nil, List.cons_append, List.nil_append, Nat.reduceAdd, Nat.reduceSub, Nat.zero_add, List.replicate_succ, List.replicate_zero]; unfold t__law_folded
  o_attr
  refine s_repL1 (by omega) ?_
  o_norm
  rw [hnl]
  refine s_rng1K (by omega) (by omega) ?_
  o_attr
  refine s_forMap (List.range ns.length) (fun (i : Nat) => .int (i : Int)) (fun l' st => ∃ (r : List Int) (d3 : Vl), (∀ i ∈ l', i < ns.length) ∧ r.length = most ∧ st = [.scr ns, .fr (.int (most : Nat)), .ow (r.map .int), d3]) (rngN _) trivial ⟨List.replicate most 0, _, fun i h => List.mem_range.mp h, List.length_replicate, by rw [List.map_replicate]⟩ ?_ ?_
  · rintro i l' st ⟨r, d3, hl, hr, rfl⟩ K hK
    have hi := hl i List.mem_cons_self
    o_norm
    obtain ⟨a, ea, ha⟩ : ∃ a : Nat, (i : Int) % (most : Int) = (a : Int) ∧ a < most := ⟨i % most, by omega, Nat.mod_lt _ (by omega)⟩
    rw [ea]
    refine s_ixL rfl (intsAt (i := a) (by omega)) ?_
    o_attr
    refine s_ixL rfl (intsAt (i := i) hi) ?_
    o_attr
    rw [ea]
    refine s_subK rfl (by rw [List.length_map]; exact ixN_ok (by omega)) (iset r a _) (by first | (simp only [List.set_cons_succ, List.set_cons_zero]; done) | (simp only [List.set_cons_succ, List.set_cons_zero]; rfl)) ?_
    exact hK _ ⟨_, _, fun j h => hl j (List.mem_cons_of_mem _ h), by rw [List.length_set]; exact hr, rfl⟩ trivial
  · rintro st ⟨r, d3, hl, hr, rfl⟩
    o_attr
    obtain ⟨k, ek, hk⟩ : ∃ k : Nat, min ((List.map PyData.int ns).length : Int) (most : Int) = (k : Int) ∧ k ≤ most := ⟨(min ((List.map PyData.int ns).length : Int) (most : Int)).toNat, by omega, by omega⟩
    rw [ek]
    o_attr
    rw [cut_take, ← List.map_take]
    exact q _ _ (by rw [List.length_take]; omega)
/-! _law_number -/
def S__law_number : VSp := fun ds Q _ => ∃ (l : List PyData) (n : Nat) (size : Int), Pot n l ∧ n < 2 ^ 39 ∧ 0 ≤ size ∧ size < 5 ∧ ds = [.ow l, .fr (.int size)] ∧ ∀ l' (x : Int) ds', Pot (n + 4) l' → ds'[0]? = some (.ow l') → NB x → Q (.fr (.int x)) ds'
theorem len__law_number : ∀ ds Q E, S__law_number ds Q E → ds.length = 2 := by rintro _ _ _ ⟨_, _, _, _, _, _, _, rfl, _⟩; rfl
abbrev N__law_number : List Str := ["pool", "size"]
def t__law_number : DTS := (cSeq (cIfS (cTst (c2 (gEq false) (cVar 1) (cK (.fr (.int 0))))) (cRet (cFrz (cCall [0] S__law_next (cCons (cVar 0) (cCons (cK (.fr (.int 3))) cNil))))) cNext) (cSeq (cIfS (cTst (c2 (gEq false) (cVar 1) (cK (.fr (.int 1))))) (cRet (c2 kSub (cCall [0] S__law_next (cCons (cVar 0) (cCons (cK (.fr (.int 10))) cNil))) (cK (.fr (.int 4))))) cNext) (cSeq (cIfS (cTst (c2 (gEq false) (cVar 1) (cK (.fr (.int 2))))) (cRet (c2 kSub (c2 kMul (cK (.fr (.int 10))) (cCall [0] S__law_next (cCons (cVar 0) (cCons (cK (.fr (.int 9))) cNil)))) (cK (.fr (.int 40))))) cNext) (cSeq (cIfS (cTst (c2 (gEq false) (cVar 1) (cK (.fr (.int 3))))) (cRet (cFn (g2I fun i j => min i j) (cCons (c2 kPow (cK (.fr (.int 10))) (cK (.fr (.int 9)))) (cCons (c2 kSub (c2 gAdd (c2 kMul (cCall [0] S__law_next (cCons (cVar 0) (cCons (cK (.fr (.int 20001))) cNil))) (cK (.fr (.int 100000)))) (cCall [0] S__law_next (cCons (cVar 0) (cCons (cK (.fr (.int 100000))) cNil)))) (c2 kPow (cK (.fr (.int 10))) (cK (.fr (.int 9))))) cNil)))) cNext) (cRet (c2 gIx (cLst (cCons (c2 kSub (cK (.fr (.int 0))) (c2 kPow (cK (.fr (.int 10))) (cK (.fr (.int 9))))) (cCons (c2 kPow (cK (.fr (.int 10))) (cK (.fr (.int 9)))) (cCons (cK (.fr (.int 0))) (cCons (c2 kSub (c2 kPow (cK (.fr (.int 10))) (cK (.fr (.int 9)))) (cK (.fr (.int 1)))) cNil))))) (cCall [0] S__law_next (cCons (cVar 0) (cCons (cK (.fr (.int 4))) cNil)))))))))
theorem r__law_number : ∀ ds Q0 E0, S__law_number ds Q0 E0 → t__law_number (dEnds Q0) (ds ++ List.replicate (N__law_number.length - 2) .gone) := by
  rintro ds Q0 E0 ⟨l, n, size, hP, hn, h0, h5, rfl, q⟩
  simp only [N__law_number, List.length_cons, List.length_nil, List.cons_append, List.nil_append, Nat.reduceAdd, Nat.reduceSub, Nat.zero_add, List.replicate_succ, List.replicate_zero]; unfold t__law_number
  o_attr
  · refine ⟨_, _, _, hP, by omega, by omega, by omega, rfl, fun l x ds1 hP h0x h1x e1 => ?_⟩; ((with_reducible apply s_up); (· (first | (simp only [upds, List.set_cons_zero, List.set_cons_succ, Option.getD_some, e1]; done) | (simp only [upds, List.set_cons_zero, List.set_cons_succ, Option.getD_some, e1]; rfl)))); o_attr
    exact q _ _ _ (hP.mono (by omega)) rfl ⟨by omega, by omega⟩
  · refine ⟨_, _, _, hP, by omega, by omega, by omega, rfl, fun l x ds1 hP h0x h1x e1 => ?_⟩; ((with_reducible apply s_up); (· (first | (simp only [upds, List.set_cons_zero, List.set_cons_succ, Option.getD_some, e1]; done) | (simp only [upds, List.set_cons_zero, List.set_cons_succ, Option.getD_some, e1]; rfl)))); o_attr
    exact q _ _ _ (hP.mono (by omega)) rfl ⟨by omega, by omega⟩
  · refine ⟨_, _, _, hP, by omega, by omega, by omega, rfl, fun l x ds1 hP h0x h1x e1 => ?_⟩; ((with_reducible apply s_up); (· (first | (simp only [upds, List.set_cons_zero, List.set_cons_succ, Option.getD_some, e1]; done) | (simp only [upds, List.set_cons_zero, List.set_cons_succ, Option.getD_some, e1]; rfl)))); o_attr
    exact q _ _ _ (hP.mono (by omega)) rfl ⟨by omega, by omega⟩
  · refine ⟨_, _, _, hP, by omega, by omega, by omega, rfl, fun l x ds1 hP h0x h1x e1 => ?_⟩; ((with_reducible apply s_up); (· (first | (simp only [upds, List.set_cons_zero, List.set_cons_succ, Option.getD_some, e1]; done) | (simp only [upds, List.set_cons_zero, List.set_cons_succ, Option.getD_some, e1]; rfl)))); o_attr
    refine ⟨_, _, _, hP, by omega, by omega, by omega, rfl, fun l y ds1 hP h0y h1y e1 => ?_⟩; ((with_reducible apply s_up); (· (first | (simp only [upds, List.set_cons_zero, List.set_cons_succ, Option.getD_some, e1]; done) | (simp only [upds, List.set_cons_zero, List.set_cons_succ, Option.getD_some, e1]; rfl)))); o_attr
    exact q _ _ _ (hP.mono (by omega)) rfl ⟨by omega, by omega⟩
  · refine ⟨_, _, _, hP, by omega, by omega, by omega, rfl, fun l z ds1 hP h0z h1z e1 => ?_⟩; ((with_reducible apply s_up); (· (first | (simp only [upds, List.set_cons_zero, List.set_cons_succ, Option.getD_some, e1]; done) | (simp only [upds, List.set_cons_zero, List.set_cons_succ, Option.getD_some, e1]; rfl)))); o_attr
    refine s_ixI (f := NB) rfl (atI_in [0 - 1000000000, 1000000000, 0, 1000000000 - 1] rfl h0z h1z (fun x hx => by
      simp only [List.mem_cons, List.not_mem_nil, or_false] at hx
      rcases hx with rfl | rfl | rfl | rfl <;> exact ⟨by omega, by omega⟩)) fun x hx => ?_
    o_attr
    exact q _ _ _ (hP.mono (by omega)) rfl hx
/-! _law_shaped -/
def S__law_shaped : VSp := fun ds Q _ => ∃ (l : List PyData) (n m k : Nat) (shape size : Int) (p : List Int), Pot n l ∧ n < 2 ^ 38 ∧ m ≤ 4 ∧ k ≤ 100 ∧ 0 ≤ size ∧ size < 5 ∧ Pn m p ∧ ds = [.ow l, .fr (.int shape), .fr (.int size), .fr (pt p), .fr (.int (k : Nat))] ∧ ∀ l' (p' : List Int) ds', Pot (n + 40) l' → ds'[0]? = some (.ow l') → Pn m p' → Q (.fr (pt p')) ds'
theorem len__law_shaped : ∀ ds Q E, S__law_shaped ds Q E → ds.length = 5 := by rintro _ _ _ ⟨_, _, _, _, _, _, _, _, _, _, _, _, _, _, rfl, _⟩; rfl
abbrev N__law_shaped : List Str := ["pool", "shape", "size", "last", "k", "point", "number"]
def t__law_shaped : DTS := (cSeq (cAsg (cFn (g1 gTpl) (cCons (cLc [] [6] (cSeqI (cVar 3)) (gNm 6) cYes (cFrz (cCall [0] S__law_number (cCons (cVar 0) (cCons (cVar 2) cNil))))) cNil)) (gNm 5)) (cSeq (cIfS (cAnd (cTst (c2 (gEq false) (cVar 1) (cK (.fr (.int 1))))) (cAnd (cTst (c2 (kGt) (cVar 4) (cK (.fr (.int 0))))) (cTst (c2 (gEq false) (cCall [0] S__law_next (cCons (cVar 0) (cCons (cK (.fr (.int 2))) cNil))) (cK (.fr (.int 0))))))) (cRet (cVar 3)) cNext) (cSeq (cIfS (cAnd (cTst (c2 (gEq false) (cVar 1) (cK (.fr (.int 2))))) (cTst (c2 (kGt) (cVar 4) (cK (.fr (.int 0)))))) (cRet (cFn (g1 gTpl) (cCons (cLc [] [6] (cSeqI (cVar 3)) (gNm 6) cYes (cFn (g2I fun i j => max i j) (cCons (c2 kSub (cK (.fr (.int 0))) (c2 kPow (cK (.fr (.int 10))) (cK (.fr (.int 9))))) (cCons (c2 kSub (cVar 6) (cCall [0] S__law_next (cCons (cVar 0) (cCons (cK (.fr (.int 3))) cNil)))) cNil)))) cNil))) cNext) (cSeq (cIfS (cAnd (cTst (c2 (gEq false) (cVar 1) (cK (.fr (.int 3))))) (cTst (c2 (kGt) (cFn (g1 gLen) (cCons (cVar 3) cNil)) (cK (.fr (.int 1)))))) (cRet (cFrz (c2 gAdd (cTup (cCons (c2 kSub (c2 kMul (cK (.fr (.int 3))) (cVar 4)) (cCall [0] S__law_next (cCons (cVar 0) (cCons (cK (.fr (.int 2))) cNil)))) (cCons (c2 kSub (cK (.fr (.int 0))) (c2 kMul (cK (.fr (.int 7))) (cVar 4))) cNil))) (cSl (cVar 5) (cPt (cK (.fr (.int 2)))) cNoP)))) cNext) (cRet (cVar 5))))))
theorem r__law_shaped : ∀ ds Q0 E0, S__law_shaped ds Q0 E0 → t__law_shaped (dEnds Q0) (ds ++ List.replicate (N__law_shaped.length - 5) .gone) := by
  rintro ds Q0 E0 ⟨l, n, m, k, shape, size, p, hP, hn, hm, hk, h0, h5, hp, rfl, q⟩
  have hpl : (List.map PyData.int p).length = m := by rw [List.length_map, hp.1]
  simp only [N__law_shaped, List.length_cons, List.length_nil, List.cons_append, List.nil_append, Nat.reduceAdd, Nat.reduceSub, Nat.zero_add, List.replicate_succ, List.replicate_zero]; unfold t__law_shaped
  o_attr
  apply s_lcDraw 0 p PyData.int PyData.int Pot NB 4 rfl; (· intro L; (first | (simp only [wipeD, List.set_cons_zero, List.set_cons_succ]; done) | (simp only [wipeD, List.set_cons_zero, List.set_cons_succ]; rfl))); (· (first | (simp only [wipeD, List.set_cons_zero, List.set_cons_succ, List.getElem?_cons_zero, List.getElem?_cons_succ]; done) | (simp only [wipeD, List.set_cons_zero, List.set_cons_succ, List.getElem?_cons_zero, List.getElem?_cons_succ]; rfl))); (· intro L; first | trivial | rfl | exact ⟨rfl, rfl⟩)
  · rw [hp.1]; exact small (k := 10) (by omega)
  · exact hP
  · intro i _ c L hP hc K hK
    rw [hp.1] at hc
    o_norm
    refine ⟨_, _, _, hP, by omega, h0, h5, rfl, fun l x ds1 hP h1 hb => ?_⟩
    ((with_reducible apply s_up); (· (first | (simp only [upds, List.set_cons_zero, List.set_cons_succ, Option.getD_some, h1]; done) | (simp only [upds, List.set_cons_zero, List.set_cons_succ, Option.getD_some, h1]; rfl))))
    o_attr
    exact hK _ _ hP hb
  intro l xs hP hxs hxb
  rw [hp.1] at hP hxs
  o_attr
  o_args
  have hxl : (List.map PyData.int xs).length = m := by rw [List.length_map, hxs]
  with_reducible refine s_seqCut (fun st => ∃ l, Pot (n + 17) l ∧ st = [.ow l, .fr (.int shape), .fr (.int size), .fr (pt p), .fr (.int (k : Nat)), .fr (pt xs), .gone]) (fun K hK => ?_) ?_
  · o_attr
    · refine ⟨_, _, _, hP, by omega, by omega, by omega, rfl, fun l z ds1 hP h0z h1z e1 => ?_⟩; ((with_reducible apply s_up); (· (first | (simp only [upds, List.set_cons_zero, List.set_cons_succ, Option.getD_some, e1]; done) | (simp only [upds, List.set_cons_zero, List.set_cons_succ, Option.getD_some, e1]; rfl)))); o_attr
      · exact q _ _ _ (hP.mono (by omega)) rfl hp
      · exact hK _ ⟨_, hP.mono (by omega), rfl⟩
    all_goals exact hK _ ⟨_, hP.mono (by omega), rfl⟩
  rintro st ⟨l, hP, rfl⟩
  with_reducible refine s_seqCut (fun st => st = [.ow l, .fr (.int shape), .fr (.int size), .fr (pt p), .fr (.int (k : Nat)), .fr (pt xs), .gone]) (fun K hK => ?_) ?_
  · o_attr
    · apply s_lcDraw 0 p PyData.int PyData.int Pot NB 1 rfl; (· intro L; (first | (simp only [wipeD, List.set_cons_zero, List.set_cons_succ]; done) | (simp only [wipeD, List.set_cons_zero, List.set_cons_succ]; rfl))); (· (first | (simp only [wipeD, List.set_cons_zero, List.set_cons_succ, List.getElem?_cons_zero, List.getElem?_cons_succ]; done) | (simp only [wipeD, List.set_cons_zero, List.set_cons_succ, List.getElem?_cons_zero, List.getElem?_cons_succ]; rfl))); (· intro L; first | trivial | rfl | exact ⟨rfl, rfl⟩)
      · rw [hp.1]; exact small (k := 10) (by omega)
      · exact hP
      · intro i hi c L hP hc K hK
        rw [hp.1] at hc
        have hib := hp.2 i hi
        o_norm
        refine ⟨_, _, _, hP, by omega, by omega, by omega, rfl, fun l z ds1 hP h0z h1z e1 => ?_⟩; ((with_reducible apply s_up); (· (first | (simp only [upds, List.set_cons_zero, List.set_cons_succ, Option.getD_some, e1]; done) | (simp only [upds, List.set_cons_zero, List.set_cons_succ, Option.getD_some, e1]; rfl)))); o_attr
        exact hK _ _ hP ⟨by omega, by have := hib.2; omega⟩
      intro l ys hP hys hyb
      rw [hp.1] at hP hys
      o_attr
      exact q _ _ _ (hP.mono (by omega)) rfl ⟨hys, hyb⟩
    all_goals exact hK _ rfl
  rintro st rfl
  o_attr
  · refine ⟨_, _, _, hP, by omega, by omega, by omega, rfl, fun l z ds1 hP h0z h1z e1 => ?_⟩; ((with_reducible apply s_up); (· (first | (simp only [upds, List.set_cons_zero, List.set_cons_succ, Option.getD_some, e1]; done) | (simp only [upds, List.set_cons_zero, List.set_cons_succ, Option.getD_some, e1]; rfl)))); o_attr
    have e1 : cut (List.map PyData.int xs) (some (2 : Int)) none = (xs.drop 2).map .int := by rw [List.map_drop]; exact cut_drop (k := 2) _
    rw [e1]
    o_attr
    rw [show [PyData.int (3 * (k : Int) - z), PyData.int (0 - 7 * (k : Int))] ++ List.map PyData.int (xs.drop 2) = ((3 * (k : Int) - z) :: (0 - 7 * (k : Int)) :: xs.drop 2).map .int from rfl]
    refine q _ _ _ (hP.mono (by omega)) rfl ⟨?_, fun x hx => ?_⟩
    · rw [List.length_cons, List.length_cons, List.length_drop]; omega
    · rcases List.mem_cons.mp hx with rfl | hx
      · exact ⟨by omega, by omega⟩
      rcases List.mem_cons.mp hx with rfl | hx
      · exact ⟨by omega, by omega⟩
      exact hxb x (List.mem_of_mem_drop hx)
  · exact q _ _ _ (hP.mono (by omega)) rfl ⟨hxs, hxb⟩
  · exact q _ _ _ (hP.mono (by omega)) rfl ⟨hxs, hxb⟩
/-! _law_points -/
def S__law_points : VSp := fun ds Q _ => ∃ (l : List PyData) (n m most : Nat), Pot n l ∧ n < 2 ^ 37 ∧ 1 ≤ m ∧ m ≤ 4 ∧ most ≤ 24 ∧ ds = [.ow l, .fr (.int (m : Nat)), .fr (.int (most : Nat))] ∧ ∀ l' (ps : List (List Int)) ds', Pot (n + 2000) l' → ps.length ≤ max 4 most → (∀ p ∈ ps, Pn m p) → ds'[0]? = some (.ow l') → Q (.fr (pts ps)) ds'
theorem len__law_points : ∀ ds Q E, S__law_points ds Q E → ds.length = 3 := by rintro _ _ _ ⟨_, _, _, _, _, _, _, _, _, rfl, _⟩; rfl
abbrev N__law_points : List Str := ["pool", "measures", "most", "shape", "size", "many", "last", "found", "k"]
def t__law_points : DTS := (cSeq (cAsg (cFrz (cCall [0] S__law_next (cCons (cVar 0) (cCons (cK (.fr (.int 4))) cNil)))) (gNm 3)) (cSeq (cAsg (cFrz (cCall [0] S__law_next (cCons (cVar 0) (cCons (cK (.fr (.int 5))) cNil)))) (gNm 4)) (cSeq (cAsg (c2 gIx (cLst (cCons (cFrz (cCall [0] S__law_next (cCons (cVar 0) (cCons (c2 gAdd (cVar 2) (cK (.fr (.int 1)))) cNil)))) (cCons (cVar 2) (cCons (cFrz (cCall [0] S__law_next (cCons (cVar 0) (cCons (cK (.fr (.int 5))) cNil)))) cNil)))) (cCall [0] S__law_next (cCons (cVar 0) (cCons (cK (.fr (.int 3))) cNil)))) (gNm 5)) (cSeq (cAsg (c2 gRepA (cTup (cCons (cK (.fr (.int 0))) cNil)) (cVar 1)) (gNm 6)) (cSeq (cAsg (cLst cNil) (gNm 7)) (cSeq (cFor [] (cRng1 (cCons (cVar 5) cNil)) (gNm 8) (cSeq (cAsg (cFrz (cCall [0] S__law_shaped (cCons (cVar 0) (cCons (cVar 3) (cCons (cVar 4) (cCons (cVar 6) (cCons (cVar 8) cNil))))))) (gNm 6)) (cDrop (cMth' gIns (cVar 7) (cCons (cFrz (cCall [0] S__law_next (cCons (cVar 0) (cCons (c2 gAdd (cFn (g1 gLen) (cCons (cVar 7) cNil)) (cK (.fr (.int 1)))) cNil)))) (cCons (cVar 6) cNil)))))) (cRet (cFn (g1 gTpl) (cCons (cVar 7) cNil)))))))))
theorem r__law_points : ∀ ds Q0 E0, S__law_points ds Q0 E0 → t__law_points (dEnds Q0) (ds ++ List.replicate (N__law_points.length - 3) .gone) := by
  rintro ds Q0 E0 ⟨l, n, m, most, hP, hn, hm, hm4, hmost, rfl, q⟩
  simp only [N__law_points, List.length_cons, List.length_nil, List.cons_append, List.nil_append, Nat.reduceAdd, Nat.reduceSub, Nat.zero_add, List.replicate_succ, List.replicate_zero]; unfold t__law_points
  o_attr
  refine ⟨_, _, _, hP, by omega, by omega, by omega, rfl, fun l shape ds1 hP h0shape h1shape e1 => ?_⟩; ((with_reducible apply s_up); (· (first | (simp only [upds, List.set_cons_zero, List.set_cons_succ, Option.getD_some, e1]; done) | (simp only [upds, List.set_cons_zero, List.set_cons_succ, Option.getD_some, e1]; rfl)))); o_attr
  o_norm
  refine ⟨_, _, _, hP, by omega, by omega, by omega, rfl, fun l size ds1 hP h0size h1size e1 => ?_⟩; ((with_reducible apply s_up); (· (first | (simp only [upds, List.set_cons_zero, List.set_cons_succ, Option.getD_some, e1]; done) | (simp only [upds, List.set_cons_zero, List.set_cons_succ, Option.getD_some, e1]; rfl)))); o_attr
  o_norm
  refine ⟨_, _, _, hP, by omega, by omega, by omega, rfl, fun l x ds1 hP h0x h1x e1 => ?_⟩; ((with_reducible apply s_up); (· (first | (simp only [upds, List.set_cons_zero, List.set_cons_succ, Option.getD_some, e1]; done) | (simp only [upds, List.set_cons_zero, List.set_cons_succ, Option.getD_some, e1]; rfl)))); o_attr
  refine ⟨_, _, _, hP, by omega, by omega, by omega, rfl, fun l y ds1 hP h0y h1y e1 => ?_⟩; ((with_reducible apply s_up); (· (first | (simp only [upds, List.set_cons_zero, List.set_cons_succ, Option.getD_some, e1]; done) | (simp only [upds, List.set_cons_zero, List.set_cons_succ, Option.getD_some, e1]; rfl)))); o_attr
  refine ⟨_, _, _, hP, by omega, by omega, by omega, rfl, fun l z ds1 hP h0z h1z e1 => ?_⟩; ((with_reducible apply s_up); (· (first | (simp only [upds, List.set_cons_zero, List.set_cons_succ, Option.getD_some, e1]; done) | (simp only [upds, List.set_cons_zero, List.set_cons_succ, Option.getD_some, e1]; rfl)))); o_attr
  refine s_ixI (f := fun w => 0 ≤ w ∧ w ≤ max 4 most) rfl (atI_in [x, (most : Nat), y] rfl h0z h1z (fun w hw => by
    simp only [List.mem_cons, List.not_mem_nil, or_false] at hw
    omega)) fun w hw => ?_
  obtain ⟨many, rfl⟩ : ∃ many : Nat, w = (many : Int) := ⟨w.toNat, by omega⟩
  have hmany : many ≤ max 4 most := by omega
  o_args
  o_attr
  refine s_repT1 (by omega) ?_
  o_norm
  refine s_rng1K (by omega) (by omega) ?_
  o_attr
  refine s_forMap (List.range many) (fun (i : Nat) => .int (i : Int)) (fun l2 st => ∃ (l : List PyData) (c : Nat) (qs : List (List Int)) (p : List Int) (d8 : Vl), (∀ i ∈ l2, i ≤ 24) ∧ Pot c l ∧ c + 50 * l2.length ≤ n + 10 + 50 * many ∧ qs.length + l2.length = many ∧ (∀ p ∈ qs, Pn m p) ∧ Pn m p ∧
    st = [.ow l, .fr (.int (m : Nat)), .fr (.int (most : Nat)), .fr (.int shape), .fr (.int size), .fr (.int (many : Nat)), .fr (pt p), .ow (qs.map pt), d8]) (rngN many) trivial ⟨l, _, [], List.replicate m 0, _, fun i hi => by have := List.mem_range.mp hi; omega, hP, by rw [List.length_range]; omega, by rw [List.length_range]; exact Nat.zero_add _, (by intro p h; cases h), ⟨List.length_replicate, fun x hx => by rw [List.eq_of_mem_replicate hx]; exact ⟨by decide, by decide⟩⟩, by rw [pt, List.map_replicate]; rfl⟩ ?_ ?_
  · rintro i l2 st ⟨l, c, qs, p, d8, hi24, hP, hc, hqs, hqm, hp, rfl⟩ K hK
    have hi := hi24 i List.mem_cons_self
    rw [List.length_cons] at hc hqs
    have hql : (List.map pt qs).length = qs.length := List.length_map _
    o_norm
    refine ⟨l, c, m, i, shape, size, p, hP, by omega, hm4, by omega, h0size, h1size, hp, rfl, fun l p ds1 hP h1 hp => ?_⟩
    ((with_reducible apply s_up); (· (first | (simp only [upds, List.set_cons_zero, List.set_cons_succ, Option.getD_some, h1]; done) | (simp only [upds, List.set_cons_zero, List.set_cons_succ, Option.getD_some, h1]; rfl))))
    o_norm
    rw [hql]
    refine ⟨_, _, _, hP, by omega, by omega, by omega, rfl, fun l at_ ds1 hP h0at_ h1at_ e1 => ?_⟩; ((with_reducible apply s_up); (· (first | (simp only [upds, List.set_cons_zero, List.set_cons_succ, Option.getD_some, e1]; done) | (simp only [upds, List.set_cons_zero, List.set_cons_succ, Option.getD_some, e1]; rfl)))); o_attr
    refine s_ins (by rw [hql, sizeLine_eq]; omega) (by omega) (by omega) ?_
    o_attr
    rw [← List.map_take, ← List.map_drop, ← List.map_singleton, ← List.map_append, ← List.map_append]
    exact hK _ ⟨_, _, qs.take at_.toNat ++ [p] ++ qs.drop at_.toNat, p, _, fun j h => hi24 j (List.mem_cons_of_mem _ h), hP, by omega, by simp only [List.length_append, List.length_take, List.length_drop, List.length_singleton]; omega, fun x hx => by
      simp only [List.mem_append, List.mem_singleton] at hx
      rcases hx with (h | h) | h
      · exact hqm x (List.mem_of_mem_take h)
      · rw [h]; exact hp
      · exact hqm x (List.mem_of_mem_drop h), hp, rfl⟩ trivial
  · rintro st ⟨l, c, qs, p, d8, hi24, hP, hc, hqs, hqm, hp, rfl⟩
    simp only [List.length_nil] at hc hqs
    o_attr
    exact q _ _ _ (hP.mono (by omega)) (by omega) hqm rfl
/-! _law_over -/
def S__law_over : VSp := fun ds Q _ => ∃ xs ys : List Int, xs.length ≤ 10 ∧ ys.length ≤ 10 ∧ ds = [.fr (pt xs), .fr (pt ys)] ∧ ∀ ds', Q (.fr (.bool (beats xs ys))) ds'
theorem len__law_over : ∀ ds Q E, S__law_over ds Q E → ds.length = 2 := by rintro _ _ _ ⟨_, _, _, _, rfl, _⟩; rfl
abbrev N__law_over : List Str := ["one", "other", "here", "there"]
def t__law_over : DTS := (cRet (cFrz (cAndV (c2 (gEq true) (cVar 0) (cVar 1)) (c2 (gEq false) (cLc [] [2, 3] (cZip2 (cCons (cVar 0) (cCons (cVar 1) cNil))) (gTu 2 (gsCons (gNm 2) (gsCons (gNm 3) gsNil))) (cTst (c2 (kLt) (cVar 2) (cVar 3))) (cK (.fr (.int 1)))) (cLst cNil)))))
theorem r__law_over : ∀ ds Q0 E0, S__law_over ds Q0 E0 → t__law_over (dEnds Q0) (ds ++ List.replicate (N__law_over.length - 2) .gone) := by
  rintro ds Q0 E0 ⟨xs, ys, hx, hy, rfl, q⟩
  simp only [N__law_over, List.length_cons, List.length_nil, List.cons_append, List.nil_append, Nat.reduceAdd, Nat.reduceSub, Nat.zero_add, List.replicate_succ, List.replicate_zero]; unfold t__law_over
  o_attr
  · have : beats xs ys = false := by simp [beats, h]
    rw [← this]; exact q _
  · apply s_lcMap (xs.zip ys) _ (fun p => if decide (p.1 < p.2) = true then some (.int 1) else none) (zip_ints xs ys); (· (first | (simp only [wipeD, List.set_cons_zero, List.set_cons_succ]; done) | (simp only [wipeD, List.set_cons_zero, List.set_cons_succ]; rfl))); (· (first | (simp only [rst, List.set_cons_zero, List.set_cons_succ, Option.getD_some, List.getElem?_cons_zero, List.getElem?_cons_succ]; done) | (simp only [rst, List.set_cons_zero, List.set_cons_succ, Option.getD_some, List.getElem?_cons_zero, List.getElem?_cons_succ]; rfl)))
    · exact ⟨rfl, rfl⟩
    · rw [List.length_zip]; exact small (k := 10) (by omega)
    · intro p _ K hK
      o_norm
      · rw [if_pos (decide_eq_true h)] at hK
        exact hK
      · rw [if_neg (by rw [decide_eq_true_eq]; exact h)] at hK
        exact hK
    · rw [fmap_if]
      o_attr
      rw [eqv_nil, over_empty]
      have : beats xs ys = isover xs ys := by simp [beats, h]
      have e2 : isover xs ys = (xs.zip ys).all fun p => decide (p.2 ≤ p.1) := rfl
      rw [← e2, ← this]
      exact q _
/-! _law_column -/
--I X18
def ChainB (col : List (List Int)) : Prop := ∀ j, j + 1 < col.length → beats (col.getD j []) (col.getD (j + 1) []) = true
def S__law_column : VSp := fun ds Q _ => ∃ (l : List PyData) (n many : Nat) (base : List Int), Pot n l ∧ n < 2 ^ 33 ∧ 1 ≤ base.length ∧ base.length ≤ 4 ∧ many ≤ 24 ∧ ds = [.ow l, .fr (pt base), .fr (.int (many : Nat))] ∧ ∀ l' (col : List (List Int)) ds', Pot (n + 200) l' → ds'[0]? = some (.ow l') → col.length = many + 1 → base ∈ col → (∀ c ∈ col, c.length = base.length) → ChainB col → Q (.fr (.list (col.map pt))) ds'
theorem len__law_column : ∀ ds Q E, S__law_column ds Q E → ds.length = 3 := by rintro _ _ _ ⟨_, _, _, _, _, _, _, _, _, rfl, _⟩; rfl
abbrev N__law_column : List Str := ["pool", "base", "many", "found", "k", "step", "alone", "number", "at", "more"]
def t__law_column : DTS := (cSeq (cAsg (cLst (cCons (cVar 1) cNil)) (gNm 3)) (cSeq (cFor [] (cRng1 (cCons (cVar 2) cNil)) (gNm 4) (cSeq (cAsg (cFn (g1 gTpl) (cCons (cLc [] [7] (cSeqI (cVar 1)) (gNm 7) cYes (cFrz (cCall [0] S__law_next (cCons (cVar 0) (cCons (cK (.fr (.int 5))) cNil))))) cNil)) (gNm 5)) (cSeq (cAsg (cFrz (cCall [0] S__law_next (cCons (cVar 0) (cCons (c2 kMul (cK (.fr (.int 2))) (cFn (g1 gLen) (cCons (cVar 1) cNil))) cNil)))) (gNm 6)) (cSeq (cIfS (cOr (cTst (c2 (gEq false) (cFn (g1 gMaxA) (cCons (cVar 5) cNil)) (cK (.fr (.int 0))))) (cTst (c2 (kLt) (cVar 6) (cFn (g1 gLen) (cCons (cVar 1) cNil))))) (cAsg (cFn (g1 gTpl) (cCons (cLc [] [8] (cRng1 (cCons (cFn (g1 gLen) (cCons (cVar 1) cNil)) cNil)) (gNm 8) cYes (c2 kMul (c2 gAdd (cK (.fr (.int 1))) (c2 gIx (cVar 5) (cVar 8))) (cFn (g1 gInt) (cCons (c2 (gEq false) (cVar 8) (c2 kMod (cVar 6) (cFn (g1 gLen) (cCons (cVar 1) cNil)))) cNil)))) cNil)) (gNm 5)) cNext) (cIfS (cTst (c2 (gEq false) (cCall [0] S__law_next (cCons (cVar 0) (cCons (cK (.fr (.int 2))) cNil))) (cK (.fr (.int 0))))) (cDrop (cMth' gIns (cVar 3) (cCons (cK (.fr (.int 0))) (cCons (cFn (g1 gTpl) (cCons (cLc [] [7, 9] (cZip2 (cCons (c2 gIx (cVar 3) (cK (.fr (.int 0)))) (cCons (cVar 5) cNil))) (gTu 2 (gsCons (gNm 7) (gsCons (gNm 9) gsNil))) cYes (c2 gAdd (cVar 7) (cVar 9))) cNil)) cNil)))) (cDrop (cMth' gApp (cVar 3) (cCons (cFn (g1 gTpl) (cCons (cLc [] [7, 9] (cZip2 (cCons (c2 gIx (cVar 3) (c1 gNeg (cK (.fr (.int 1))))) (cCons (cVar 5) cNil))) (gTu 2 (gsCons (gNm 7) (gsCons (gNm 9) gsNil))) cYes (c2 kSub (cVar 7) (cVar 9))) cNil)) cNil)))))))) (cRet (cFrz (cVar 3)))))
theorem up_beats : ∀ {p s : List Int}, p.length = s.length → (∀ x ∈ s, 0 ≤ x) → isover (List.zipWith (· + ·) p s) p = true ∧ ((∃ x ∈ s, 0 < x) → List.zipWith (· + ·) p s ≠ p)
  | [], [], _, _ => ⟨rfl, fun ⟨x, h, _⟩ => by cases h⟩
  | a :: p, x :: s, h, hx => by
    obtain ⟨h1, h2⟩ := up_beats (Nat.succ.inj h) fun y hy => hx y (List.mem_cons_of_mem _ hy)
    have h0 := hx x List.mem_cons_self
    refine ⟨?_, fun ⟨y, hy, hp⟩ e => ?_⟩
    · rw [List.zipWith_cons_cons, isover_cons, h1, Bool.and_true, decide_eq_true_eq]; omega
    · rw [List.zipWith_cons_cons] at e
      obtain ⟨e1, e2⟩ := List.cons.inj e
      rcases List.mem_cons.mp hy with rfl | hy
      · omega
      · exact h2 ⟨y, hy, hp⟩ e2
theorem down_beats : ∀ {p s : List Int}, p.length = s.length → (∀ x ∈ s, 0 ≤ x) → isover p (List.zipWith (· - ·) p s) = true ∧ ((∃ x ∈ s, 0 < x) → p ≠ List.zipWith (· - ·) p s)
  | [], [], _, _ => ⟨rfl, fun ⟨x, h, _⟩ => by cases h⟩
  | a :: p, x :: s, h, hx => by
    obtain ⟨h1, h2⟩ := down_beats (Nat.succ.inj h) fun y hy => hx y (List.mem_cons_of_mem _ hy)
    have h0 := hx x List.mem_cons_self
    refine ⟨?_, fun ⟨y, hy, hp⟩ e => ?_⟩
    · rw [List.zipWith_cons_cons, isover_cons, h1, Bool.and_true, decide_eq_true_eq]; omega
    · rw [List.zipWith_cons_cons] at e
      obtain ⟨e1, e2⟩ := List.cons.inj e
      rcases List.mem_cons.mp hy with rfl | hy
      · omega
      · exact h2 ⟨y, hy, hp⟩ e2
theorem chain_front {c p : List Int} {col : List (List Int)} (h : ChainB (p :: col)) (b : beats c p = true) : ChainB (c :: p :: col) := fun j hj => by
  cases j with
  | zero => exact b
  | succ j => exact h j (by rw [List.length_cons] at hj; omega)
theorem chain_back {c : List Int} {col : List (List Int)} (h : ChainB col) (hne : col ≠ []) (b : beats (col.getD (col.length - 1) []) c = true) : ChainB (col ++ [c]) := fun j hj => by
  rw [List.length_append, List.length_singleton] at hj
  by_cases e : j + 1 < col.length
  · have := h j e
    rw [List.getD_eq_getElem?_getD, List.getD_eq_getElem?_getD] at this ⊢
    rw [List.getElem?_append_left (by omega), List.getElem?_append_left e]
    exact this
  · have hj2 : j = col.length - 1 := by omega
    subst hj2
    have hp := List.length_pos_iff.mpr hne
    simp only [List.getD_eq_getElem?_getD] at b ⊢
    rw [List.getElem?_append_left (by omega), show col.length - 1 + 1 = col.length by omega, List.getElem?_append_right (Nat.le_refl _), Nat.sub_self]
    exact b
theorem zw (f : Int → Int → Int) : ∀ l l' : List Int, (l.zip l').map (fun p => PyData.int (f p.1 p.2)) = (List.zipWith f l l').map .int
  | [], _ => rfl
  | _ :: _, [] => rfl
  | a :: l, b :: l' => by rw [List.zip_cons_cons, List.map_cons, zw f l l', List.zipWith_cons_cons, List.map_cons]
theorem r__law_column : ∀ ds Q0 E0, S__law_column ds Q0 E0 → t__law_column (dEnds Q0) (ds ++ List.replicate (N__law_column.length - 3) .gone) := by
  rintro ds Q0 E0 ⟨l, n, many, base, hP, hn, hb1, hb4, hm, rfl, q⟩
  have hbl : (base.map PyData.int).length = base.length := List.length_map _
  simp only [N__law_column, List.length_cons, List.length_nil, List.cons_append, List.nil_append, Nat.reduceAdd, Nat.reduceSub, Nat.zero_add, List.replicate_succ, List.replicate_zero]; unfold t__law_column
  o_attr
  o_args
  o_attr
  refine s_rng1K (by omega) (by omega) ?_
  o_attr
  refine s_forMap (List.range many) (fun (i : Nat) => .int (i : Int)) (fun l' st => ∃ (l : List PyData) (c : Nat) (col : List (List Int)) (d4 d5 d6 : Vl), Pot c l ∧ c + 6 * l'.length ≤ n + 6 * many ∧ col.length + l'.length = many + 1 ∧ base ∈ col ∧ (∀ c ∈ col, c.length = base.length) ∧ ChainB col ∧ st = [.ow l, .fr (pt base), .fr (.int (many : Nat)), .ow (col.map pt), d4, d5, d6, .gone, .gone, .gone]) (rngN many) trivial
    ⟨l, n, [base], _, _, _, hP, by rw [List.length_range]; omega, by rw [List.length_range, List.length_singleton]; omega, List.mem_singleton.mpr rfl, fun c hc => by rw [List.mem_singleton.mp hc], fun j hj => by rw [List.length_singleton] at hj; omega, rfl⟩ ?_ ?_
  · rintro k l' st ⟨l, c, col, d4, d5, d6, hP, hc, hcl, hbc, hcm, hch, rfl⟩ K hK
    rw [List.length_cons] at hc hcl
    o_args
    o_attr
    apply s_lcDraw 0 base PyData.int PyData.int Pot (fun z => 0 ≤ z ∧ z < 5) 1 rfl; (· intro L; (first | (simp only [wipeD, List.set_cons_zero, List.set_cons_succ]; done) | (simp only [wipeD, List.set_cons_zero, List.set_cons_succ]; rfl))); (· (first | (simp only [wipeD, List.set_cons_zero, List.set_cons_succ, List.getElem?_cons_zero, List.getElem?_cons_succ]; done) | (simp only [wipeD, List.set_cons_zero, List.set_cons_succ, List.getElem?_cons_zero, List.getElem?_cons_succ]; rfl))); (· intro L; first | trivial | rfl | exact ⟨rfl, rfl⟩)
    · exact small (k := 10) (by omega)
    · exact hP
    · intro y hy c2 L hP hc2 K3 hK3
      o_norm
      refine ⟨_, _, _, hP, by omega, by omega, by omega, rfl, fun l z ds1 hP h0z h1z e1 => ?_⟩; ((with_reducible apply s_up); (· (first | (simp only [upds, List.set_cons_zero, List.set_cons_succ, Option.getD_some, e1]; done) | (simp only [upds, List.set_cons_zero, List.set_cons_succ, Option.getD_some, e1]; rfl)))); o_attr
      exact hK3 _ _ hP ⟨h0z, h1z⟩
    intro l sp hP hsp hspb
    o_attr
    o_args
    o_attr
    rw [hbl]
    refine ⟨_, _, _, hP, by omega, by omega, by omega, rfl, fun l al ds1 hP h0al h1al e1 => ?_⟩; ((with_reducible apply s_up); (· (first | (simp only [upds, List.set_cons_zero, List.set_cons_succ, Option.getD_some, e1]; done) | (simp only [upds, List.set_cons_zero, List.set_cons_succ, Option.getD_some, e1]; rfl)))); o_attr
    o_args
    have hm0 := Int.emod_nonneg al (show ((base.length : Nat) : Int) ≠ 0 by omega)
    have hm1 := Int.emod_lt_of_pos al (show (0 : Int) < ((base.length : Nat) : Int) by omega)
    let J : List Vl → Prop := fun st => ∃ sp : List Int, sp.length = base.length ∧ (∀ x ∈ sp, 0 ≤ x) ∧ (∃ x ∈ sp, 0 < x) ∧ st = [.ow l, .fr (pt base), .fr (.int (many : Nat)), .ow (col.map pt), .fr (.int (k : Nat)), .fr (pt sp), .fr (.int al), .gone, .gone, .gone]
    with_reducible refine s_seqCut J (fun K5 hK5 => ?_) ?_
    · o_attr
      refine ⟨sp, .inr rfl, by omega, fun mx hx1 hx2 => ?_⟩
      o_attr
      · rw [hbl]
        refine s_rng1K (by omega) (by omega) ?_
        o_attr
        apply s_lcMap (List.range base.length) (fun (i : Nat) => .int (i : Int)) (fun (i : Nat) => Option.some (.int ((1 + sp.getD i 0) * (if (i : Int) = al % (base.length : Int) then 1 else 0)))) (rngN base.length); (· (first | (simp only [wipeD, List.set_cons_zero, List.set_cons_succ]; done) | (simp only [wipeD, List.set_cons_zero, List.set_cons_succ]; rfl))); (· (first | (simp only [rst, List.set_cons_zero, List.set_cons_succ, Option.getD_some, List.getElem?_cons_zero, List.getElem?_cons_succ]; done) | (simp only [rst, List.set_cons_zero, List.set_cons_succ, Option.getD_some, List.getElem?_cons_zero, List.getElem?_cons_succ]; rfl)))
        · trivial
        · rw [List.length_range]; exact small (k := 10) (by omega)
        · intro i hi K3 hK3
          have hi := List.mem_range.mp hi
          o_norm
          refine s_ixT rfl (intsAt (i := i) (by omega)) ?_
          o_attr
          rw [eqv_int, hbl]
          simp only [decide_eq_true_eq]
          exact hK3
        rw [fmap_some, show (List.range base.length).map (fun (i : Nat) => PyData.int ((1 + sp.getD i 0) * (if (i : Int) = al % (base.length : Int) then 1 else 0))) = ((List.range base.length).map fun (i : Nat) => (1 + sp.getD i 0) * (if (i : Int) = al % (base.length : Int) then 1 else 0)).map .int by rw [List.map_map]; rfl]
        o_attr
        o_args
        have hg : ∀ i, 0 ≤ sp.getD i 0 := fun i => by
          by_cases hi : i < sp.length
          · rw [List.getD_eq_getElem?_getD, List.getElem?_eq_getElem hi]
            exact (hspb _ (List.getElem_mem hi)).1
          · rw [List.getD_eq_getElem?_getD, List.getElem?_eq_none (by omega)]; exact Int.le_refl 0
        refine hK5 _ ⟨_, by rw [List.length_map, List.length_range], fun x hx => ?_, ⟨1 + sp.getD (al % (base.length : Int)).toNat 0, List.mem_map.mpr ⟨(al % (base.length : Int)).toNat, List.mem_range.mpr (by omega), by rw [if_pos (by omega), Int.mul_one]⟩, by have := hg (al % (base.length : Int)).toNat; omega⟩, rfl⟩
        obtain ⟨i, _, rfl⟩ := List.mem_map.mp hx
        have := hg i
        split
        · omega
        · omega
      · rw [hbl]
        refine s_rng1K (by omega) (by omega) ?_
        o_attr
        apply s_lcMap (List.range base.length) (fun (i : Nat) => .int (i : Int)) (fun (i : Nat) => Option.some (.int ((1 + sp.getD i 0) * (if (i : Int) = al % (base.length : Int) then 1 else 0)))) (rngN base.length); (· (first | (simp only [wipeD, List.set_cons_zero, List.set_cons_succ]; done) | (simp only [wipeD, List.set_cons_zero, List.set_cons_succ]; rfl))); (· (first | (simp only [rst, List.set_cons_zero, List.set_cons_succ, Option.getD_some, List.getElem?_cons_zero, List.getElem?_cons_succ]; done) | (simp only [rst, List.set_cons_zero, List.set_cons_succ, Option.getD_some, List.getElem?_cons_zero, List.getElem?_cons_succ]; rfl)))
        · trivial
        · rw [List.length_range]; exact small (k := 10) (by omega)
        · intro i hi K3 hK3
          have hi := List.mem_range.mp hi
          o_norm
          refine s_ixT rfl (intsAt (i := i) (by omega)) ?_
          o_attr
          rw [eqv_int, hbl]
          simp only [decide_eq_true_eq]
          exact hK3
        rw [fmap_some, show (List.range base.length).map (fun (i : Nat) => PyData.int ((1 + sp.getD i 0) * (if (i : Int) = al % (base.length : Int) then 1 else 0))) = ((List.range base.length).map fun (i : Nat) => (1 + sp.getD i 0) * (if (i : Int) = al % (base.length : Int) then 1 else 0)).map .int by rw [List.map_map]; rfl]
        o_attr
        o_args
        have hg : ∀ i, 0 ≤ sp.getD i 0 := fun i => by
          by_cases hi : i < sp.length
          · rw [List.getD_eq_getElem?_getD, List.getElem?_eq_getElem hi]
            exact (hspb _ (List.getElem_mem hi)).1
          · rw [List.getD_eq_getElem?_getD, List.getElem?_eq_none (by omega)]; exact Int.le_refl 0
        refine hK5 _ ⟨_, by rw [List.length_map, List.length_range], fun x hx => ?_, ⟨1 + sp.getD (al % (base.length : Int)).toNat 0, List.mem_map.mpr ⟨(al % (base.length : Int)).toNat, List.mem_range.mpr (by omega), by rw [if_pos (by omega), Int.mul_one]⟩, by have := hg (al % (base.length : Int)).toNat; omega⟩, rfl⟩
        obtain ⟨i, _, rfl⟩ := List.mem_map.mp hx
        have := hg i
        split
        · omega
        · omega
      · exact hK5 _ ⟨sp, hsp, fun x hx => (hspb x hx).1, ⟨mx, hx1, by have := (hspb mx hx1).1; omega⟩, rfl⟩
    rintro st ⟨sp, hsp, hs0, hsp1, rfl⟩
    have hcp : 0 < col.length := List.length_pos_of_mem hbc
    o_attr
    refine ⟨_, _, _, hP, by omega, by omega, by omega, rfl, fun l w ds1 hP h0w h1w e1 => ?_⟩; ((with_reducible apply s_up); (· (first | (simp only [upds, List.set_cons_zero, List.set_cons_succ, Option.getD_some, e1]; done) | (simp only [upds, List.set_cons_zero, List.set_cons_succ, Option.getD_some, e1]; rfl)))); o_attr
    o_attr
    · have hl0 : (col.getD 0 []).length = base.length := hcm _ (by rw [List.getD_eq_getElem?_getD, List.getElem?_eq_getElem hcp]; exact List.getElem_mem _)
      refine s_ixL rfl (ptsAt (i := 0) hcp) ?_
      o_attr
      apply s_lcMap ((col.getD 0 []).zip sp) _ (fun p => Option.some (.int (p.1 + p.2))) (zip_ints _ _); (· (first | (simp only [wipeD, List.set_cons_zero, List.set_cons_succ]; done) | (simp only [wipeD, List.set_cons_zero, List.set_cons_succ]; rfl))); (· (first | (simp only [rst, List.set_cons_zero, List.set_cons_succ, Option.getD_some, List.getElem?_cons_zero, List.getElem?_cons_succ]; done) | (simp only [rst, List.set_cons_zero, List.set_cons_succ, Option.getD_some, List.getElem?_cons_zero, List.getElem?_cons_succ]; rfl)))
      · exact ⟨rfl, rfl⟩
      · rw [List.length_zip]; exact small (k := 10) (by omega)
      · intro p _ K3 hK3
        o_norm
        exact hK3
      rw [fmap_some, zw (· + ·)]
      have hcl2 : (col.map pt).length = col.length := List.length_map _
      o_attr
      obtain ⟨p, rest, rfl⟩ : ∃ p rest, col = p :: rest := by
        cases col with
        | nil => cases hbc
        | cons p rest => exact ⟨p, rest, rfl⟩
      have hl0 : p.length = base.length := hl0
      refine s_ins (by rw [hcl2, sizeLine_eq]; omega) (by decide) (by decide) ?_
      o_attr
      obtain ⟨u1, u2⟩ := up_beats (p := p) (s := sp) (by omega) hs0
      have hbt : beats (List.zipWith (· + ·) p sp) p = true := by unfold beats; rw [u1, Bool.and_true, decide_eq_true_eq]; exact u2 hsp1
      refine hK _ ⟨l, _, List.zipWith (· + ·) p sp :: p :: rest, .fr (.int (k : Nat)), .fr (pt sp), .fr (.int al), hP, by omega, by rw [List.length_cons]; omega, List.mem_cons_of_mem _ hbc, fun c hc => ?_, chain_front hch hbt, ?_⟩ trivial
      rotate_left
      · rfl
      rcases List.mem_cons.mp hc with rfl | hc
      · rw [List.length_zipWith]; omega
      · exact hcm c hc
    · have hl1 : (col.getD (col.length - 1) []).length = base.length := hcm _ (by rw [List.getD_eq_getElem?_getD, List.getElem?_eq_getElem (by omega : col.length - 1 < col.length)]; exact List.getElem_mem _)
      have hcl2 : (col.map pt).length = col.length := List.length_map _
      refine s_ixL (x := pt (col.getD (col.length - 1) [])) rfl ?_ ?_
      · unfold atI ixN
        rw [if_neg (by decide), hcl2, if_pos (by omega), show (-1 + (col.length : Int)).toNat = col.length - 1 by omega]
        show (col.map pt)[col.length - 1]? = _
        rw [List.getElem?_map, List.getD_eq_getElem?_getD, List.getElem?_eq_getElem (by omega : col.length - 1 < col.length)]; rfl
      o_attr
      apply s_lcMap ((col.getD (col.length - 1) []).zip sp) _ (fun p => Option.some (.int (p.1 - p.2))) (zip_ints _ _); (· (first | (simp only [wipeD, List.set_cons_zero, List.set_cons_succ]; done) | (simp only [wipeD, List.set_cons_zero, List.set_cons_succ]; rfl))); (· (first | (simp only [rst, List.set_cons_zero, List.set_cons_succ, Option.getD_some, List.getElem?_cons_zero, List.getElem?_cons_succ]; done) | (simp only [rst, List.set_cons_zero, List.set_cons_succ, Option.getD_some, List.getElem?_cons_zero, List.getElem?_cons_succ]; rfl)))
      · exact ⟨rfl, rfl⟩
      · rw [List.length_zip]; exact small (k := 10) (by omega)
      · intro p _ K3 hK3
        o_norm
        exact hK3
      rw [fmap_some, zw (· - ·)]
      o_attr
      obtain ⟨u1, u2⟩ := down_beats (p := col.getD (col.length - 1) []) (s := sp) (by omega) hs0
      have hbt : beats (col.getD (col.length - 1) []) (List.zipWith (· - ·) (col.getD (col.length - 1) []) sp) = true := by unfold beats; rw [u1, Bool.and_true, decide_eq_true_eq]; exact u2 hsp1
      refine hK _ ⟨l, _, col ++ [List.zipWith (· - ·) (col.getD (col.length - 1) []) sp], _, _, _, hP, by omega, by rw [List.length_append, List.length_singleton]; omega, List.mem_append_left _ hbc, fun c hc => ?_, chain_back hch (List.length_pos_iff.mp hcp) hbt, by rw [List.map_append]; rfl⟩ trivial
      rcases List.mem_append.mp hc with hc | hc
      · exact hcm c hc
      · rw [List.mem_singleton.mp hc, List.length_zipWith]; omega
  · rintro st ⟨l, c, col, d4, d5, d6, hP, hc, hcl, hbc, hcm, hch, rfl⟩
    rw [List.length_nil] at hc hcl
    o_attr
    refine q _ col [_, _, _, _, _, _, _, _, _, _] (hP.mono (by omega)) rfl (by omega) hbc hcm hch
/-! _law_columns -/
--I X18
def colD (c : List (List Int) × List Int) : PyData := .tuple [.list (c.1.map pt), pt c.2]
def belowP (a b : List Int) : Prop := a.getD 0 0 < b.getD 0 0 ∧ b.getD 1 0 < a.getD 1 0
structure ColsOk (m : Nat) (cs : List (List (List Int) × List Int)) : Prop where
  few : cs.length ≤ 8
  sum : (cs.map fun c => c.1.length).sum ≤ 24
  ok : ∀ c ∈ cs, c.2 ∈ c.1 ∧ (∀ p ∈ c.1, p.length = m) ∧ ChainB c.1
  pw : cs.Pairwise fun a b => a.2 = b.2 ∨ belowP a.2 b.2
def S__law_columns : VSp := fun ds Q _ => ∃ (l : List PyData) (n m : Nat), Pot n l ∧ n < 2 ^ 32 ∧ 1 ≤ m ∧ m ≤ 4 ∧ ds = [.ow l, .fr (.int (m : Nat))] ∧ ∀ l' (cs : List (List (List Int) × List Int)) ds', Pot (n + 3000) l' → ds'[0]? = some (.ow l') → ColsOk m cs → Q (.fr (.list (cs.map colD))) ds'
theorem len__law_columns : ∀ ds Q E, S__law_columns ds Q E → ds.length = 2 := by rintro _ _ _ ⟨_, _, _, _, _, _, _, rfl, _⟩; rfl
abbrev N__law_columns : List Str := ["pool", "measures", "found", "base", "left", "k", "more", "many", "j"]
def t__law_columns : DTS := (cSeq (cAsg (cLst cNil) (gNm 2)) (cSeq (cAsg (c2 gRepA (cTup (cCons (cK (.fr (.int 0))) cNil)) (cVar 1)) (gNm 3)) (cSeq (cAsg (cK (.fr (.int 24))) (gNm 4)) (cSeq (cFor [] (cRng1 (cCons (cFrz (cCall [0] S__law_next (cCons (cVar 0) (cCons (cK (.fr (.int 9))) cNil)))) cNil)) (gNm 5) (cSeq (cIfS (cAnd (cTst (c2 (kGt) (cVar 1) (cK (.fr (.int 1))))) (cOr (cTst (c2 (gEq false) (cVar 5) (cK (.fr (.int 0))))) (cTst (c2 (kGt) (cCall [0] S__law_next (cCons (cVar 0) (cCons (cK (.fr (.int 3))) cNil))) (cK (.fr (.int 0))))))) (cSeq (cAsg (cFn (g1 gTpl) (cCons (cLc [] [8] (cRng1 (cCons (c2 kSub (cVar 1) (cK (.fr (.int 2)))) cNil)) (gNm 8) cYes (cFrz (cCall [0] S__law_next (cCons (cVar 0) (cCons (cK (.fr (.int 9))) cNil))))) cNil)) (gNm 6)) (cAsg (c2 gAdd (cTup (cCons (cFrz (c2 gAdd (c2 kMul (cK (.fr (.int 100))) (cVar 5)) (cCall [0] S__law_next (cCons (cVar 0) (cCons (cK (.fr (.int 50))) cNil))))) (cCons (c2 kSub (cK (.fr (.int 0))) (c2 kMul (cK (.fr (.int 100))) (cVar 5))) cNil))) (cVar 6)) (gNm 3))) cNext) (cSeq (cAsg (cFn (g2I fun i j => min i j) (cCons (c2 kSub (cVar 4) (cK (.fr (.int 1)))) (cCons (cFrz (cCall [0] S__law_next (cCons (cVar 0) (cCons (c2 gIx (cLst (cCons (cK (.fr (.int 3))) (cCons (cK (.fr (.int 9))) cNil))) (cCall [0] S__law_next (cCons (cVar 0) (cCons (cK (.fr (.int 2))) cNil)))) cNil)))) cNil))) (gNm 7)) (cIfS (cTst (c2 (kGe) (cVar 7) (cK (.fr (.int 0))))) (cSeq (cDrop (cMth' gApp (cVar 2) (cCons (cTup (cCons (cFrz (cCall [0] S__law_column (cCons (cVar 0) (cCons (cVar 3) (cCons (cVar 7) cNil))))) (cCons (cVar 3) cNil))) cNil))) (cAsg (c2 kSub (c2 kSub (cVar 4) (cVar 7)) (cK (.fr (.int 1)))) (gNm 4))) cNext)))) (cRet (cFrz (cVar 2)))))))
theorem r__law_columns : ∀ ds Q0 E0, S__law_columns ds Q0 E0 → t__law_columns (dEnds Q0) (ds ++ List.replicate (N__law_columns.length - 2) .gone) := by
  rintro ds Q0 E0 ⟨l, n, m, hP, hn, hm1, hm4, rfl, q⟩
  simp only [N__law_columns, List.length_cons, List.length_nil, List.cons_append, List.nil_append, Nat.reduceAdd, Nat.reduceSub, Nat.zero_add, List.replicate_succ, List.replicate_zero]; unfold t__law_columns
  o_attr
  o_args
  o_attr
  refine s_repT1 (n := m) (by omega) ?_
  o_attr
  o_args
  o_attr
  o_args
  o_attr
  refine ⟨_, _, _, hP, by omega, by omega, by omega, rfl, fun l t ds1 hP h0t h1t e1 => ?_⟩; ((with_reducible apply s_up); (· (first | (simp only [upds, List.set_cons_zero, List.set_cons_succ, Option.getD_some, e1]; done) | (simp only [upds, List.set_cons_zero, List.set_cons_succ, Option.getD_some, e1]; rfl)))); o_attr
  obtain ⟨t, rfl⟩ := Int.eq_ofNat_of_zero_le h0t
  refine s_rng1K (by omega) (by omega) ?_
  o_attr
  let J : Nat → List PyData → Nat → List (List (List Int) × List Int) → List Int → Nat → Prop := fun k l c cs base left => Pot c l ∧ c ≤ n + 1 + 300 * k ∧ base.length = m ∧ cs.length ≤ k ∧ (cs.map fun c => c.1.length).sum + left = 24 ∧ (∀ c ∈ cs, c.2 ∈ c.1 ∧ (∀ p ∈ c.1, p.length = m) ∧ ChainB c.1) ∧ (cs.Pairwise fun a b => a.2 = b.2 ∨ belowP a.2 b.2) ∧ (∀ c ∈ cs, c.2 = base ∨ belowP c.2 base)
  let P : Nat → List (List (List Int) × List Int) → List Int → Prop := fun k cs base => m = 1 ∨ (k = 0 ∧ cs = []) ∨ (base.getD 0 0 < 100 * (k : Int) ∧ -100 * (k : Int) < base.getD 1 0)
  refine s_forMap (List.range t) (fun (i : Nat) => .int (i : Int)) (fun l' st => ∃ (k : Nat) (l : List PyData) (c : Nat) (cs : List (List (List Int) × List Int)) (base : List Int) (left : Nat) (d5 d6 d7 : Vl), l' = List.range' k (t - k) ∧ k ≤ t ∧ J k l c cs base left ∧ P k cs base ∧ st = [.ow l, .fr (.int (m : Nat)), .ow (cs.map colD), .fr (pt base), .fr (.int (left : Nat)), d5, d6, d7, .gone]) (rngN t) trivial
    ⟨0, l, _, [], List.replicate m 0, 24, _, _, _, by rw [Nat.sub_zero, List.range_eq_range'], Nat.zero_le _, ⟨hP, by omega, List.length_replicate, Nat.le_refl _, rfl, by simp, List.Pairwise.nil, by simp⟩, .inr (.inl ⟨rfl, rfl⟩), by rw [pt, List.map_replicate]; rfl⟩ ?_ ?_
  · rintro x l' st ⟨k, l, c, cs, base, left, d5, d6, d7, hk, hkt, ⟨hP, hc, hbl, hcs, hsum, hok, hpw, hrel⟩, hPk, rfl⟩ K hK
    obtain ⟨n', hn'⟩ : ∃ n', t - k = n' + 1 := by
      cases e : t - k with
      | zero => rw [e] at hk; cases hk
      | succ n => exact ⟨n, rfl⟩
    rw [hn', List.range'_succ] at hk
    obtain ⟨rfl, hk2⟩ := List.cons.inj hk
    o_args
    with_reducible refine s_seqCut (fun st => ∃ (l : List PyData) (c2 : Nat) (base : List Int) (d6 : Vl), Pot c2 l ∧ c2 ≤ c + 10 ∧ base.length = m ∧ (∀ c ∈ cs, c.2 = base ∨ belowP c.2 base) ∧ (m = 1 ∨ (base.getD 0 0 < 100 * ((x + 1 : Nat) : Int) ∧ -100 * ((x + 1 : Nat) : Int) < base.getD 1 0)) ∧ st = [.ow l, .fr (.int (m : Nat)), .ow (cs.map colD), .fr (pt base), .fr (.int (left : Nat)), .fr (.int (x : Nat)), d6, d7, .gone]) (fun K5 hK5 => ?_) ?_
    · o_attr
      · rw [show ((m : Int) - 2) = ((m - 2 : Nat) : Int) by omega]
        refine s_rng1K (by omega) (by omega) ?_
        o_attr
        apply s_lcDraw 0 (List.range (m - 2)) (fun (i : Nat) => .int (i : Int)) PyData.int Pot (fun _ => True) 1 (rngN (m - 2)); (· intro L; (first | (simp only [wipeD, List.set_cons_zero, List.set_cons_succ]; done) | (simp only [wipeD, List.set_cons_zero, List.set_cons_succ]; rfl))); (· (first | (simp only [wipeD, List.set_cons_zero, List.set_cons_succ, List.getElem?_cons_zero, List.getElem?_cons_succ]; done) | (simp only [wipeD, List.set_cons_zero, List.set_cons_succ, List.getElem?_cons_zero, List.getElem?_cons_succ]; rfl))); (· intro L; first | trivial | rfl | exact ⟨rfl, rfl⟩)
        · rw [List.length_range]; exact small (k := 10) (by omega)
        · exact hP
        · intro i _ c' L hP hc' K3 hK3
          rw [List.length_range] at hc'
          o_norm
          refine ⟨_, _, _, hP, by omega, by omega, by omega, rfl, fun l z ds1 hP h0z h1z e1 => ?_⟩; ((with_reducible apply s_up); (· (first | (simp only [upds, List.set_cons_zero, List.set_cons_succ, Option.getD_some, e1]; done) | (simp only [upds, List.set_cons_zero, List.set_cons_succ, Option.getD_some, e1]; rfl)))); o_attr
          exact hK3 _ _ hP trivial
        intro l mo hP hmo _
        rw [List.length_range] at hP hmo
        have hml : (mo.map PyData.int).length = mo.length := List.length_map _
        o_attr
        o_args
        o_attr
        refine ⟨_, _, _, hP, by omega, by omega, by omega, rfl, fun l u ds1 hP h0u h1u e1 => ?_⟩; ((with_reducible apply s_up); (· (first | (simp only [upds, List.set_cons_zero, List.set_cons_succ, Option.getD_some, e1]; done) | (simp only [upds, List.set_cons_zero, List.set_cons_succ, Option.getD_some, e1]; rfl)))); o_attr
        o_args
        refine hK5 _ ⟨l, _, (100 * (x : Int) + u) :: (0 - 100 * (x : Int)) :: mo, _, hP, by omega, by simp only [List.length_cons]; omega, fun c hc => .inr ?_, .inr ⟨?_, ?_⟩, rfl⟩
        · rcases hPk with h1 | ⟨_, h1⟩ | ⟨h1, h2⟩
          · omega
          · rw [h1] at hc; cases hc
          · rcases hrel c hc with e | ⟨e1, e2⟩
            · rw [e]
              exact ⟨show base.getD 0 0 < 100 * (x : Int) + u by omega, show 0 - 100 * (x : Int) < base.getD 1 0 by omega⟩
            · exact ⟨show c.2.getD 0 0 < 100 * (x : Int) + u by omega, show 0 - 100 * (x : Int) < c.2.getD 1 0 by omega⟩
        · show 100 * (x : Int) + u < 100 * ((x + 1 : Nat) : Int)
          omega
        · show -100 * ((x + 1 : Nat) : Int) < 0 - 100 * (x : Int)
          omega
      · refine ⟨_, _, _, hP, by omega, by omega, by omega, rfl, fun l w ds1 hP h0w h1w e1 => ?_⟩; ((with_reducible apply s_up); (· (first | (simp only [upds, List.set_cons_zero, List.set_cons_succ, Option.getD_some, e1]; done) | (simp only [upds, List.set_cons_zero, List.set_cons_succ, Option.getD_some, e1]; rfl)))); o_attr
        o_attr
        · rw [show ((m : Int) - 2) = ((m - 2 : Nat) : Int) by omega]
          refine s_rng1K (by omega) (by omega) ?_
          o_attr
          apply s_lcDraw 0 (List.range (m - 2)) (fun (i : Nat) => .int (i : Int)) PyData.int Pot (fun _ => True) 1 (rngN (m - 2)); (· intro L; (first | (simp only [wipeD, List.set_cons_zero, List.set_cons_succ]; done) | (simp only [wipeD, List.set_cons_zero, List.set_cons_succ]; rfl))); (· (first | (simp only [wipeD, List.set_cons_zero, List.set_cons_succ, List.getElem?_cons_zero, List.getElem?_cons_succ]; done) | (simp only [wipeD, List.set_cons_zero, List.set_cons_succ, List.getElem?_cons_zero, List.getElem?_cons_succ]; rfl))); (· intro L; first | trivial | rfl | exact ⟨rfl, rfl⟩)
          · rw [List.length_range]; exact small (k := 10) (by omega)
          · exact hP
          · intro i _ c' L hP hc' K3 hK3
            rw [List.length_range] at hc'
            o_norm
            refine ⟨_, _, _, hP, by omega, by omega, by omega, rfl, fun l z ds1 hP h0z h1z e1 => ?_⟩; ((with_reducible apply s_up); (· (first | (simp only [upds, List.set_cons_zero, List.set_cons_succ, Option.getD_some, e1]; done) | (simp only [upds, List.set_cons_zero, List.set_cons_succ, Option.getD_some, e1]; rfl)))); o_attr
            exact hK3 _ _ hP trivial
          intro l mo hP hmo _
          rw [List.length_range] at hP hmo
          have hml : (mo.map PyData.int).length = mo.length := List.length_map _
          o_attr
          o_args
          o_attr
          refine ⟨_, _, _, hP, by omega, by omega, by omega, rfl, fun l u ds1 hP h0u h1u e1 => ?_⟩; ((with_reducible apply s_up); (· (first | (simp only [upds, List.set_cons_zero, List.set_cons_succ, Option.getD_some, e1]; done) | (simp only [upds, List.set_cons_zero, List.set_cons_succ, Option.getD_some, e1]; rfl)))); o_attr
          o_args
          refine hK5 _ ⟨l, _, (100 * (x : Int) + u) :: (0 - 100 * (x : Int)) :: mo, _, hP, by omega, by simp only [List.length_cons]; omega, fun c hc => .inr ?_, .inr ⟨?_, ?_⟩, rfl⟩
          · rcases hPk with h1 | ⟨_, h1⟩ | ⟨h1, h2⟩
            · omega
            · rw [h1] at hc; cases hc
            · rcases hrel c hc with e | ⟨e1, e2⟩
              · rw [e]
                exact ⟨show base.getD 0 0 < 100 * (x : Int) + u by omega, show 0 - 100 * (x : Int) < base.getD 1 0 by omega⟩
              · exact ⟨show c.2.getD 0 0 < 100 * (x : Int) + u by omega, show 0 - 100 * (x : Int) < c.2.getD 1 0 by omega⟩
          · show 100 * (x : Int) + u < 100 * ((x + 1 : Nat) : Int)
            omega
          · show -100 * ((x + 1 : Nat) : Int) < 0 - 100 * (x : Int)
            omega
        · refine hK5 _ ⟨l, _, base, _, hP, by omega, hbl, hrel, ?_, rfl⟩
          rcases hPk with h1 | ⟨h0, h1⟩ | ⟨h1, h2⟩
          · exact .inl h1
          · omega
          · exact .inr ⟨by omega, by omega⟩
      · refine hK5 _ ⟨l, _, base, _, hP, by omega, hbl, hrel, .inl (by omega), rfl⟩
    rintro st ⟨l, c2, base, d6, hP, hc2, hbl, hrel, hPk2, rfl⟩
    o_attr
    refine ⟨_, _, _, hP, by omega, by omega, by omega, rfl, fun l a ds1 hP h0a h1a e1 => ?_⟩; ((with_reducible apply s_up); (· (first | (simp only [upds, List.set_cons_zero, List.set_cons_succ, Option.getD_some, e1]; done) | (simp only [upds, List.set_cons_zero, List.set_cons_succ, Option.getD_some, e1]; rfl)))); o_attr
    refine s_ixI (f := fun p => 0 < p ∧ p ≤ 9) rfl (atI_in [3, 9] rfl h0a (by simp only [List.length_cons, List.length_nil]; omega) (by decide)) fun p hp => ?_
    o_attr
    refine ⟨_, _, _, hP, by omega, by omega, by omega, rfl, fun l b ds1 hP h0b h1b e1 => ?_⟩; ((with_reducible apply s_up); (· (first | (simp only [upds, List.set_cons_zero, List.set_cons_succ, Option.getD_some, e1]; done) | (simp only [upds, List.set_cons_zero, List.set_cons_succ, Option.getD_some, e1]; rfl)))); o_attr
    o_args
    o_attr
    · obtain ⟨mn, emn, hmn⟩ : ∃ mn : Nat, min ((left : Int) - 1) b = (mn : Int) ∧ mn + 1 ≤ left := ⟨(min ((left : Int) - 1) b).toNat, by omega, by omega⟩
      rw [emn]
      refine ⟨l, _, mn, base, hP, by omega, by omega, by omega, by omega, rfl, fun l col ds1 hP e1 h1 h2 h3 h4 => ?_⟩
      ((with_reducible apply s_up); (· (first | (simp only [upds, List.set_cons_zero, List.set_cons_succ, Option.getD_some, e1]; done) | (simp only [upds, List.set_cons_zero, List.set_cons_succ, Option.getD_some, e1]; rfl))))
      have hcl : (cs.map colD).length = cs.length := List.length_map _
      o_attr
      rw [show ((left : Int) - (mn : Int) - 1) = ((left - mn - 1 : Nat) : Int) by omega]
      o_args
      refine hK _ ⟨x + 1, l, _, cs ++ [(col, base)], base, left - mn - 1, _, _, _, by rw [hk2]; congr 1; omega, by omega, ⟨hP, by omega, hbl, by rw [List.length_append, List.length_singleton]; omega, ?_, fun c hc => ?_, ?_, fun c hc => ?_⟩, ?_, by rw [List.map_append]; rfl⟩ trivial
      · rw [List.map_append, List.sum_append, List.map_cons, List.map_nil, List.sum_cons, List.sum_nil]
        show _ + (col.length + 0) + _ = 24
        omega
      · rcases List.mem_append.mp hc with hc | hc
        · exact hok c hc
        · rw [List.mem_singleton.mp hc]
          exact ⟨h2, fun p hp => by rw [h3 p hp]; exact hbl, h4⟩
      · rw [List.pairwise_append]
        refine ⟨hpw, List.pairwise_singleton _ _, fun a ha c hc => ?_⟩
        rw [List.mem_singleton.mp hc]
        exact hrel a ha
      · rcases List.mem_append.mp hc with hc | hc
        · exact hrel c hc
        · rw [List.mem_singleton.mp hc]
          exact .inl rfl
      · rcases hPk2 with h | h
        · exact .inl h
        · exact .inr (.inr h)
    · refine hK _ ⟨x + 1, l, _, cs, base, left, _, _, _, by rw [hk2]; congr 1; omega, by omega, ⟨hP, by omega, hbl, by omega, hsum, hok, hpw, hrel⟩, ?_, rfl⟩ trivial
      rcases hPk2 with h | h
      · exact .inl h
      · exact .inr (.inr h)
  · rintro st ⟨k, l, c, cs, base, left, d5, d6, d7, hk, hkt, ⟨hP, hc, hbl, hcs, hsum, hok, hpw, hrel⟩, hPk, rfl⟩
    have : t - k = 0 := by
      cases e : t - k with
      | zero => rfl
      | succ n => rw [e] at hk; cases hk
    o_attr
    refine q _ cs [_, _, _, _, _, _, _, _, _] (hP.mono (by omega)) rfl ⟨by omega, by omega, hok, hpw⟩
/-! _law_made -/
--I X19
def prL (p : Nat × Nat) : PyData := pt [(p.1 : Int), (p.2 : Int)]
def S__law_made : VSp := fun ds Q _ => ∃ (l : List PyData) (n m : Nat), Pot n l ∧ n < 2 ^ 31 ∧ 1 ≤ m ∧ m ≤ 4 ∧ ds = [.ow l, .fr (.int (m : Nat))] ∧ ∀ l' (ps : List (List Int)) (some : List Int) (rows : List (List Int)) ds', Pot (n + 4000) l' → ds'[0]? = Option.some (.ow l') → Pts ps → ps.length ≤ 24 → some.length ≤ 8 → rows.length = some.length → (∀ r ∈ rows, r.length ≤ 24) → (∀ r ∈ rows, ∃ x ∈ r, x ∈ some) → rows.flatten.Nodup → spreadB ps some rows = true → Q (.fr (.tuple [.tuple [.int (m : Nat), pts ps], pt some, .tuple (rows.map fun r => xt (r.map .int))])) ds'
theorem len__law_made : ∀ ds Q E, S__law_made ds Q E → ds.length = 2 := by rintro _ _ _ ⟨_, _, _, _, _, _, _, rfl, _⟩; rfl
abbrev N__law_made : List Str := ["pool", "measures", "columns", "places", "k", "column", "j", "points", "rows", "some", "row"]
def t__law_made : DTS := (cSeq (cAsg (cFrz (cCall [0] S__law_columns (cCons (cVar 0) (cCons (cVar 1) cNil)))) (gNm 2)) (cSeq (cAsg (cLst cNil) (gNm 3)) (cSeq (cFor [] (cEnum (cCons (cVar 2) cNil)) (gTu 2 (gsCons (gNm 4) (gsCons (gNm 5) gsNil))) (cFor [] (cRng1 (cCons (cFn (g1 gLen) (cCons (c2 gIx (cVar 5) (cK (.fr (.int 0)))) cNil)) cNil)) (gNm 6) (cDrop (cMth' gIns (cVar 3) (cCons (cFrz (cCall [0] S__law_next (cCons (cVar 0) (cCons (c2 gAdd (cFn (g1 gLen) (cCons (cVar 3) cNil)) (cK (.fr (.int 1)))) cNil)))) (cCons (cTup (cCons (cVar 4) (cCons (cVar 6) cNil))) cNil)))))) (cSeq (cAsg (cFn (g1 gTpl) (cCons (cLc [3] [4, 6] (cSeqI (cVar 3)) (gTu 2 (gsCons (gNm 4) (gsCons (gNm 6) gsNil))) cYes (c2 gIx (c2 gIx (c2 gIx (cVar 2) (cVar 4)) (cK (.fr (.int 0)))) (cVar 6))) cNil)) (gNm 7)) (cSeq (cAsg (cLst cNil) (gNm 8)) (cSeq (cFor [] (cEnum (cCons (cVar 2) cNil)) (gTu 2 (gsCons (gNm 4) (gsCons (gNm 5) gsNil))) (cDrop (cMth' gApp (cVar 8) (cCons (cFn (g1 gTplE) (cCons (cLc [] [6] (cRng1 (cCons (cFn (g1 gLen) (cCons (c2 gIx (cVar 5) (cK (.fr (.int 0)))) cNil)) cNil)) (gNm 6) cYes (cFrz (cIxQ false (cVar 3) (cTup (cCons (cVar 4) (cCons (cVar 6) cNil)))))) cNil)) cNil)))) (cSeq (cAsg (cFrz (cLc [8] [10, 5] (cZip2 (cCons (cVar 8) (cCons (cVar 2) cNil))) (gTu 2 (gsCons (gNm 10) (gsCons (gNm 5) gsNil))) cYes (c2 gIx (cVarP 10) (cIxQ false (c2 gIx (cVar 5) (cK (.fr (.int 0)))) (c2 gIx (cVar 5) (cK (.fr (.int 1)))))))) (gNm 9)) (cRet (cTup (cCons (cTup (cCons (cVar 1) (cCons (cVar 7) cNil))) (cCons (cFn (g1 gTpl) (cCons (cFn (g1 gSrt) (cCons (cVar 9) cNil)) cNil)) (cCons (cFn (g1 gTpl) (cCons (cVar 8) cNil)) cNil))))))))))))
def slO : Option PyData → Vl
  | none => .gone
  | Option.some x => .fr x
theorem ins_perm {α : Type} (l : List α) (x : α) (a : Nat) : (l.take a ++ [x] ++ l.drop a).Perm (l ++ [x]) := by
  have h1 : (l.take a ++ [x] ++ l.drop a).Perm (x :: (l.take a ++ l.drop a)) := by
    rw [List.append_assoc]
    exact List.perm_middle
  rw [List.take_append_drop] at h1
  exact h1.trans (List.perm_append_singleton x l).symm
theorem prL_inj {p q : Nat × Nat} (h : [(p.1 : Int), (p.2 : Int)] = [(q.1 : Int), (q.2 : Int)]) : p = q := by
  have h1 := (List.cons.inj h).1
  have h2 := (List.cons.inj (List.cons.inj h).2).1
  obtain ⟨a, b⟩ := p
  obtain ⟨c, d⟩ := q
  simp only at h1 h2
  rw [show a = c by omega, show b = d by omega]
theorem r__law_made : ∀ ds Q0 E0, S__law_made ds Q0 E0 → t__law_made (dEnds Q0) (ds ++ List.replicate (N__law_made.length - 2) .gone) := by
  rintro ds Q0 E0 ⟨l, n, m, hP, hn, hm1, hm4, rfl, q⟩
  simp only [N__law_made, List.length_cons, List.length_nil, List.cons_append, List.nil_append, Nat.reduceAdd, Nat.reduceSub, Nat.zero_add, List.replicate_succ, List.replicate_zero]; unfold t__law_made
  o_attr
  refine ⟨l, n, m, hP, by omega, hm1, hm4, rfl, fun l cs ds1 hP e1 hc => ?_⟩
  ((with_reducible apply s_up); (· (first | (simp only [upds, List.set_cons_zero, List.set_cons_succ, Option.getD_some, e1]; done) | (simp only [upds, List.set_cons_zero, List.set_cons_succ, Option.getD_some, e1]; rfl))))
  obtain ⟨hfew, hsum, hok, hpw⟩ := hc
  have hcl : (cs.map colD).length = cs.length := List.length_map _
  have hat : ∀ {i : Nat} {c : Col}, cs[i]? = Option.some c → atI (cs.map colD) (i : Int) = Option.some (colD c) := fun {i c} h => by
    apply atI_ok
    rw [List.getElem?_map, h]; rfl
  o_attr
  o_args
  o_attr
  o_args
  with_reducible refine s_seqCut (fun st => ∃ (l : List PyData) (P : List (Nat × Nat)) (o4 o5 o6 : Option PyData), Pot (n + 3100) l ∧ P.Perm (prsAt 0 cs) ∧ st = [.ow l, .fr (.int (m : Nat)), .fr (.list (cs.map colD)), .ow (P.map prL), slO o4, slO o5, slO o6, .gone, .gone, .gone, .gone]) (fun K hK => ?_) ?_
  · o_attr
    refine s_forMap cs.zipIdx (fun p => .tuple [.int (p.2 : Nat), colD p.1]) (fun l' st => ∃ (pre : List (Col × Nat)) (l : List PyData) (P : List (Nat × Nat)) (o4 o5 o6 : Option PyData), cs.zipIdx = pre ++ l' ∧ Pot (n + 3000 + P.length) l ∧ P.Perm (prsAt 0 (pre.map Prod.fst)) ∧ st = [.ow l, .fr (.int (m : Nat)), .fr (.list (cs.map colD)), .ow (P.map prL), slO o4, slO o5, slO o6, .gone, .gone, .gone, .gone]) (enum_map colD cs 0) rfl ⟨[], l, [], none, none, none, rfl, hP, List.Perm.refl _, rfl⟩ ?_ ?_
    · rintro ⟨c, k⟩ l' st ⟨pre, l, P, o4, o5, o6, hpre, hP, hperm, rfl⟩ K2 hK2
      obtain ⟨hck, rfl⟩ : cs[pre.length]? = Option.some c ∧ k = pre.length := by
        have h1 := congrArg (fun z => z[pre.length]?) hpre
        simp only [List.getElem?_zipIdx, List.getElem?_append_right (Nat.le_refl _), Nat.sub_self, List.getElem?_cons_zero, Nat.zero_add] at h1
        obtain ⟨a, h2, h3⟩ := Option.map_eq_some_iff.mp h1
        have h4 := Prod.mk.inj h3
        rw [h2, h4.1]
        exact ⟨rfl, h4.2.symm⟩
      have hpl : (prsAt 0 (pre.map Prod.fst)).length + c.1.length ≤ 24 := by
        have h1 := congrArg (fun z => (z.map Prod.fst).map fun c : Col => c.1.length) hpre
        simp only [List.zipIdx_map_fst, List.map_append, List.map_cons] at h1
        rw [h1, List.sum_append, List.sum_cons] at hsum
        rw [prs_len]
        omega
      have hPl := hperm.length_eq
      have hcl2 : (c.1.map pt).length = c.1.length := List.length_map _
      o_norm
      rw [show colD c = .tuple [.list (c.1.map pt), pt c.2] from rfl]
      o_attr
      rw [hcl2]
      refine s_rng1K (by omega) (by omega) ?_
      o_attr
      refine s_forMap (List.range c.1.length) (fun (j : Nat) => .int (j : Int)) (fun l' st => ∃ (pre2 : List Nat) (l : List PyData) (P2 : List (Nat × Nat)) (o6 : Option PyData), List.range c.1.length = pre2 ++ l' ∧ Pot (n + 3000 + P2.length) l ∧ P2.Perm (prsAt 0 (pre.map Prod.fst) ++ pre2.map fun j => (pre.length, j)) ∧ st = [.ow l, .fr (.int (m : Nat)), .fr (.list (cs.map colD)), .ow (P2.map prL), .fr (.int (pre.length : Nat)), .fr (colD c), slO o6, .gone, .gone, .gone, .gone]) (rngN c.1.length) trivial ⟨[], l, P, o6, rfl, hP, by rw [List.map_nil, List.append_nil]; exact hperm, rfl⟩ ?_ ?_
      · rintro j l2 st ⟨pre2, l, P2, o6, hpre2, hP, hperm2, rfl⟩ K3 hK3
        have hj : pre2.length < c.1.length := by
          have := congrArg List.length hpre2
          rw [List.length_range, List.length_append, List.length_cons] at this
          omega
        have hPl2 := hperm2.length_eq
        rw [List.length_append, List.length_map] at hPl2
        have hml : (P2.map prL).length = P2.length := List.length_map _
        o_norm
        refine ⟨_, _, _, hP, by omega, by omega, by omega, rfl, fun l a ds1 hP h0a h1a e1 => ?_⟩; ((with_reducible apply s_up); (· (first | (simp only [upds, List.set_cons_zero, List.set_cons_succ, Option.getD_some, e1]; done) | (simp only [upds, List.set_cons_zero, List.set_cons_succ, Option.getD_some, e1]; rfl)))); o_attr
        obtain ⟨a, rfl⟩ := Int.eq_ofNat_of_zero_le h0a
        refine s_ins (by rw [hml, sizeLine_eq]; omega) h0a (by omega) ?_
        o_attr
        rw [show (P2.map prL).take ((a : Nat) : Int).toNat ++ [PyData.tuple [.int (pre.length : Nat), .int (j : Nat)]] ++ (P2.map prL).drop ((a : Nat) : Int).toNat = (P2.take a ++ [(pre.length, j)] ++ P2.drop a).map prL by rw [List.map_append, List.map_append, List.map_take, List.map_drop]; rfl]
        have hip := ins_perm P2 (pre.length, j) a
        refine hK3 _ ⟨pre2 ++ [j], _, _, Option.some (.int (j : Nat)), by rw [hpre2, List.append_assoc]; rfl, ?_, ?_, rfl⟩ trivial
        · rw [hip.length_eq, List.length_append, List.length_singleton]
          exact hP.mono (by omega)
        · rw [List.map_append, ← List.append_assoc]
          exact hip.trans (hperm2.append_right _)
      · rintro st ⟨pre2, l, P2, o6, hpre2, hP, hperm2, rfl⟩
        o_attr
        rw [List.append_nil] at hpre2
        refine hK2 _ ⟨pre ++ [(c, pre.length)], l, P2, Option.some (.int (pre.length : Nat)), Option.some (colD c), o6, by rw [hpre, List.append_assoc]; rfl, hP, ?_, rfl⟩ rfl
        rw [List.map_append, List.map_cons, List.map_nil, prs_app, List.length_map, Nat.zero_add, hpre2]
        exact hperm2
    · rintro st ⟨pre, l, P, o4, o5, o6, hpre, hP, hperm, rfl⟩
      o_attr
      rw [List.append_nil] at hpre
      have e2 : pre.map Prod.fst = cs := by rw [← hpre, List.zipIdx_map_fst]
      rw [e2] at hperm
      have hPl := hperm.length_eq
      rw [prs_len] at hPl
      have hP3 : P.length ≤ 24 := by rw [hPl]; exact hsum
      exact hK _ ⟨l, P, _, _, _, hP.mono (by omega), hperm, rfl⟩
  rintro st ⟨l, P, o4, o5, o6, hP, hperm, rfl⟩
  have hPl := hperm.length_eq
  rw [prs_len] at hPl
  have hP3 : P.length ≤ 24 := by rw [hPl]; exact hsum
  have hml : (P.map prL).length = P.length := List.length_map _
  have hPm : ∀ {p}, p ∈ P → ∃ c, cs[p.1]? = Option.some c ∧ p.2 < c.1.length := fun {p} hp => by
    obtain ⟨i, c, h1, h2, h3⟩ := prs_ge (hperm.mem_iff.mp hp)
    rw [Nat.zero_add] at h2
    exact ⟨c, by rw [h2]; exact h1, h3⟩
  have hix : ∀ {k j : Nat} {c : Col}, cs[k]? = Option.some c → j < c.1.length → (k, j) ∈ P := fun {k j c} h hj => by
    have := prs_mem (k := 0) h hj
    rw [Nat.zero_add] at this
    exact hperm.mem_iff.mpr this
  have hfirst : ∀ {p : Nat × Nat}, p ∈ P → (P.map fun p => [(p.1 : Int), (p.2 : Int)])[P.idxOf p]? = Option.some [(p.1 : Int), (p.2 : Int)] ∧ ∀ (m : Nat) (z : List Int), m < P.idxOf p → (P.map fun p => [(p.1 : Int), (p.2 : Int)])[m]? = Option.some z → z ≠ [(p.1 : Int), (p.2 : Int)] := fun {p} hp => by
    have hn := hperm.nodup_iff.mpr (prs_nodup cs 0)
    refine ⟨?_, fun m z hm hz e => ?_⟩
    · rw [List.getElem?_map, List.getElem?_eq_getElem (List.idxOf_lt_length_iff.mpr hp), List.getElem_idxOf]; rfl
    · subst e
      rw [List.getElem?_map] at hz
      obtain ⟨q, hq, e⟩ := Option.map_eq_some_iff.mp hz
      have e := prL_inj e
      subst e
      obtain ⟨h1, h2⟩ := List.getElem?_eq_some_iff.mp hq
      have := hn.idxOf_getElem m h1
      rw [h2] at this
      omega
  o_attr
  refine ⟨by cases o4 <;> cases o6 <;> rfl, ?_⟩
  apply s_lcMap P prL (fun p => Option.some (pt (valC cs p))) rfl; (· (first | (simp only [wipeD, List.set_cons_zero, List.set_cons_succ]; done) | (simp only [wipeD, List.set_cons_zero, List.set_cons_succ]; rfl))); (· (first | (simp only [rst, List.set_cons_zero, List.set_cons_succ, Option.getD_some, List.getElem?_cons_zero, List.getElem?_cons_succ]; done) | (simp only [rst, List.set_cons_zero, List.set_cons_succ, Option.getD_some, List.getElem?_cons_zero, List.getElem?_cons_succ]; rfl)))
  · trivial
  · exact small (k := 24) (by omega)
  · intro p hp K3 hK3
    obtain ⟨c, h1, h2⟩ := hPm hp
    obtain ⟨k, j⟩ := p
    rw [show prL (k, j) = .tuple [.int (k : Nat), .int (j : Nat)] from rfl]
    o_norm
    refine s_ixL rfl (hat h1) ?_
    rw [show colD c = .tuple [.list (c.1.map pt), pt c.2] from rfl]
    o_attr
    refine s_ixL (x := pt (valC cs (k, j))) rfl (by rw [val_at h1]; exact atI_ok (by rw [List.getElem?_map, List.getElem?_eq_getElem h2, List.getD_eq_getElem?_getD, List.getElem?_eq_getElem h2]; rfl)) ?_
    o_attr
    exact hK3
  rw [fmap_some, show (P.map fun p => pt (valC cs p)) = (P.map (valC cs)).map pt by rw [List.map_map]; rfl]
  o_attr
  o_args
  o_attr
  o_args
  with_reducible refine s_seqCut (fun st => ∃ (o4 o5 : Option PyData), st = [.ow l, .fr (.int (m : Nat)), .fr (.list (cs.map colD)), .ow (P.map prL), slO o4, slO o5, slO o6, .fr (pts (P.map (valC cs))), .ow ((rowsAt P 0 cs).map fun r => xt (r.map .int)), .gone, .gone]) (fun K hK => ?_) ?_
  · o_attr
    refine s_forMap cs.zipIdx (fun p => .tuple [.int (p.2 : Nat), colD p.1]) (fun l' st => ∃ (pre : List (Col × Nat)) (o4 o5 : Option PyData), cs.zipIdx = pre ++ l' ∧ st = [.ow l, .fr (.int (m : Nat)), .fr (.list (cs.map colD)), .ow (P.map prL), slO o4, slO o5, slO o6, .fr (pts (P.map (valC cs))), .ow ((rowsAt P 0 (pre.map Prod.fst)).map fun r => xt (r.map .int)), .gone, .gone]) (enum_map colD cs 0) rfl ⟨[], o4, o5, rfl, rfl⟩ ?_ ?_
    · rintro ⟨c, k⟩ l' st ⟨pre, o4, o5, hpre, rfl⟩ K2 hK2
      obtain ⟨hck, rfl⟩ : cs[pre.length]? = Option.some c ∧ k = pre.length := by
        have h1 := congrArg (fun z => z[pre.length]?) hpre
        simp only [List.getElem?_zipIdx, List.getElem?_append_right (Nat.le_refl _), Nat.sub_self, List.getElem?_cons_zero, Nat.zero_add] at h1
        obtain ⟨a, h2, h3⟩ := Option.map_eq_some_iff.mp h1
        have h4 := Prod.mk.inj h3
        rw [h2, h4.1]
        exact ⟨rfl, h4.2.symm⟩
      have hcl2 : (c.1.map pt).length = c.1.length := List.length_map _
      have hc24 : c.1.length ≤ 24 := Nat.le_trans (le_sum_of_mem1 (List.mem_map.mpr ⟨c, List.mem_of_getElem? hck, rfl⟩)) hsum
      have hrl : (rowsAt P 0 (pre.map Prod.fst)).length = pre.length := by rw [rows_len, List.length_map]
      have hpl : pre.length < cs.length := (List.getElem?_eq_some_iff.mp hck).1
      o_norm
      rw [show colD c = .tuple [.list (c.1.map pt), pt c.2] from rfl]
      o_attr
      rw [hcl2]
      refine s_rng1K (by omega) (by omega) ?_
      o_attr
      refine ⟨by cases o6 <;> rfl, ?_⟩
      apply s_lcMap (List.range c.1.length) (fun (j : Nat) => .int (j : Int)) (fun (j : Nat) => Option.some (.int ((P.idxOf (pre.length, j) : Nat) : Int))) (rngN c.1.length); (· (first | (simp only [wipeD, List.set_cons_zero, List.set_cons_succ]; done) | (simp only [wipeD, List.set_cons_zero, List.set_cons_succ]; rfl))); (· (first | (simp only [rst, List.set_cons_zero, List.set_cons_succ, Option.getD_some, List.getElem?_cons_zero, List.getElem?_cons_succ]; done) | (simp only [rst, List.set_cons_zero, List.set_cons_succ, Option.getD_some, List.getElem?_cons_zero, List.getElem?_cons_succ]; rfl)))
      · trivial
      · rw [List.length_range]; exact small (k := 24) hc24
      · intro j hj K3 hK3
        have hj := List.mem_range.mp hj
        obtain ⟨g1, g2⟩ := hfirst (hix hck hj)
        o_norm
        refine ⟨⟨_, rfl⟩, ?_⟩
        o_attr
        refine s_ixPt (P.map fun p => [(p.1 : Int), (p.2 : Int)]) [(pre.length : Int), (j : Int)] _ (by rw [List.map_map]; rfl) rfl g1 g2 ?_
        o_attr
        exact hK3
      rw [fmap_some]
      o_attr
      rw [show (rowsAt P 0 (pre.map Prod.fst)).map (fun r => xt (r.map .int)) ++ [xt ((List.range c.1.length).map fun j => PyData.int ((P.idxOf (pre.length, j) : Nat) : Int))] = (rowsAt P 0 ((pre ++ [(c, pre.length)]).map Prod.fst)).map (fun r => xt (r.map .int)) by
        rw [List.map_append, List.map_cons, List.map_nil, rows_app, List.map_append, List.length_map, Nat.zero_add, List.map_cons, List.map_nil, rowC, List.map_map]; rfl]
      exact hK2 _ ⟨pre ++ [(c, pre.length)], Option.some (.int (pre.length : Nat)), Option.some (colD c), by rw [hpre, List.append_assoc]; rfl, rfl⟩ rfl
    · rintro st ⟨pre, o4, o5, hpre, rfl⟩
      o_attr
      rw [List.append_nil] at hpre
      have e2 : pre.map Prod.fst = cs := by rw [← hpre, List.zipIdx_map_fst]
      rw [e2]
      exact hK _ ⟨_, _, rfl⟩
  rintro st ⟨o4, o5, rfl⟩
  o_attr
  refine ⟨by cases o5 <;> rfl, ?_⟩
  apply s_lcMap cs.zipIdx (fun p => .tuple [xt ((rowC P p.2 p.1).map .int), colD p.1]) (fun p => Option.some (.int (midC P p.2 p.1))) (zip_rowsX (F := fun r => xt (r.map .int)) P cs 0); (· (first | (simp only [wipeD, List.set_cons_zero, List.set_cons_succ]; done) | (simp only [wipeD, List.set_cons_zero, List.set_cons_succ]; rfl))); (· (first | (simp only [rst, List.set_cons_zero, List.set_cons_succ, Option.getD_some, List.getElem?_cons_zero, List.getElem?_cons_succ]; done) | (simp only [rst, List.set_cons_zero, List.set_cons_succ, Option.getD_some, List.getElem?_cons_zero, List.getElem?_cons_succ]; rfl)))
  · exact ⟨rfl, rfl⟩
  · rw [List.length_zipIdx]; exact small (k := 8) hfew
  · rintro ⟨c, k⟩ hck K3 hK3
    have hrk := List.mem_zipIdx_iff_getElem?.mp hck
    have hcm := (hok c (List.mem_of_getElem? hrk)).1
    obtain ⟨g1, g2⟩ := first_of2 hcm
    have hlt := List.idxOf_lt_length_iff.mpr hcm
    rw [show colD c = .tuple [.list (c.1.map pt), pt c.2] from rfl]
    o_norm
    refine ⟨⟨_, rfl⟩, ?_⟩
    o_attr
    refine s_ixPt c.1 c.2 _ rfl rfl g1 g2 ?_
    o_attr
    refine s_ixT (x := .int (midC P k c)) (by first | exact congrArg some (strip_xt _) | rfl)  (by
      apply atI_ok
      rw [rowC, List.map_map, List.getElem?_map, List.getElem?_range hlt]; rfl) ?_
    o_attr
    exact hK3
  rw [fmap_some, mids_zip]
  o_attr
  o_args
  o_attr
  refine s_srtI (midsAt P 0 cs) rfl ?_
  o_attr
  rw [show ((midsAt P 0 cs).mergeSort fun a b => decide (a ≤ b)) = srt (midsAt P 0 cs) from rfl]
  refine q l (P.map (valC cs)) (srt (midsAt P 0 cs)) (rowsAt P 0 cs) [_, _, _, _, _, _, _, _, _, _, _] (hP.mono (by omega)) rfl ⟨by rw [List.length_map]; omega, fun p hp => ?_⟩ (by rw [List.length_map]; exact hP3) (by unfold srt; rw [List.length_mergeSort, mids_len]; exact hfew) (by unfold srt; rw [List.length_mergeSort, mids_len, rows_len]) (made_few hsum) (made_mid fun c hc => (hok c hc).1) (rows_nodup hperm) (made_ok hok hpw hperm)
  obtain ⟨⟨k, j⟩, hpp, rfl⟩ := List.mem_map.mp hp
  obtain ⟨c, h1, h2⟩ := hPm hpp
  rw [val_at h1, List.getD_eq_getElem?_getD, List.getElem?_eq_getElem h2]
  have := (hok c (List.mem_of_getElem? h1)).2.1 _ (List.getElem_mem h2)
  show (c.1[j]).length ≤ 10
  rw [this]; omega
/-! _law_odd -/
--I X18
def S__law_odd : VSp := fun ds Q _ => ∃ (l : List PyData) (n many : Nat), Pot n l ∧ n < 2 ^ 38 ∧ many ≤ 100 ∧ ds = [.ow l, .fr (.int (many : Nat))] ∧ ∀ l' (x : Int) ds', Pot (n + 2) l' → ds'[0]? = some (.ow l') → Q (.fr (.int x)) ds'
theorem len__law_odd : ∀ ds Q E, S__law_odd ds Q E → ds.length = 2 := by rintro _ _ _ ⟨_, _, _, _, _, _, rfl, _⟩; rfl
abbrev N__law_odd : List Str := ["pool", "many", "way", "near"]
def t__law_odd : DTS := (cSeq (cAsg (cFrz (cCall [0] S__law_next (cCons (cVar 0) (cCons (cK (.fr (.int 7))) cNil)))) (gNm 2)) (cSeq (cAsg (cFrz (cCall [0] S__law_next (cCons (cVar 0) (cCons (c2 gAdd (cVar 1) (cK (.fr (.int 1)))) cNil)))) (gNm 3)) (cRet (c2 gIx (cLst (cCons (c1 gNeg (cK (.fr (.int 1)))) (cCons (cVar 1) (cCons (c2 kSub (cK (.fr (.int 0))) (cVar 1)) (cCons (c2 kPow (cK (.fr (.int 10))) (cK (.fr (.int 30)))) (cCons (c2 kSub (cK (.fr (.int 0))) (c2 kPow (cK (.fr (.int 10))) (cK (.fr (.int 30))))) (cCons (cVar 3) (cCons (cVar 3) cNil)))))))) (cVar 2)))))
theorem r__law_odd : ∀ ds Q0 E0, S__law_odd ds Q0 E0 → t__law_odd (dEnds Q0) (ds ++ List.replicate (N__law_odd.length - 2) .gone) := by
  rintro ds Q0 E0 ⟨l, n, many, hP, hn, hm, rfl, q⟩
  simp only [N__law_odd, List.length_cons, List.length_nil, List.cons_append, List.nil_append, Nat.reduceAdd, Nat.reduceSub, Nat.zero_add, List.replicate_succ, List.replicate_zero]; unfold t__law_odd
  o_attr
  refine ⟨_, _, _, hP, by omega, by omega, by omega, rfl, fun l way ds1 hP h0way h1way e1 => ?_⟩; ((with_reducible apply s_up); (· (first | (simp only [upds, List.set_cons_zero, List.set_cons_succ, Option.getD_some, e1]; done) | (simp only [upds, List.set_cons_zero, List.set_cons_succ, Option.getD_some, e1]; rfl)))); o_attr
  o_args
  o_attr
  refine ⟨_, _, _, hP, by omega, by omega, by omega, rfl, fun l near ds1 hP h0near h1near e1 => ?_⟩; ((with_reducible apply s_up); (· (first | (simp only [upds, List.set_cons_zero, List.set_cons_succ, Option.getD_some, e1]; done) | (simp only [upds, List.set_cons_zero, List.set_cons_succ, Option.getD_some, e1]; rfl)))); o_attr
  o_args
  o_attr
  refine s_ixI (f := fun _ => True) rfl (atI_in [-1, (many : Int), 0 - (many : Int), 1000000000000000000000000000000, 0 - 1000000000000000000000000000000, near, near] rfl h0way h1way (fun _ _ => trivial)) fun odd _ => ?_
  o_attr
  exact q _ _ _ (hP.mono (by omega)) rfl
/-! _law_bent -/
--I X18
def S__law_bent : VSp := fun ds Q _ => ∃ (l : List PyData) (n many : Nat) (way : Int) (xs : List Int), Pot n l ∧ n < 2 ^ 37 ∧ 0 ≤ way ∧ way < 15 ∧ many ≤ 24 ∧ xs.length ≤ 50 ∧ ds = [.ow l, .fr (.int way), .fr (pt xs), .fr (.int (many : Nat))] ∧ ∀ l' (zs : List Int) ds', Pot (n + 3) l' → ds'[0]? = some (.ow l') → zs.length ≤ 3 * xs.length + 2 → Q (.fr (pt zs)) ds'
theorem len__law_bent : ∀ ds Q E, S__law_bent ds Q E → ds.length = 4 := by rintro _ _ _ ⟨_, _, _, _, _, _, _, _, _, _, _, rfl, _⟩; rfl
abbrev N__law_bent : List Str := ["pool", "way", "numbers", "many", "at", "odd"]
def t__law_bent : DTS := (cSeq (cAsg (cFrz (cCall [0] S__law_next (cCons (cVar 0) (cCons (c2 gAdd (cFn (g1 gLen) (cCons (cVar 2) cNil)) (cK (.fr (.int 1)))) cNil)))) (gNm 4)) (cSeq (cAsg (cFrz (cCall [0] S__law_odd (cCons (cVar 0) (cCons (cVar 3) cNil)))) (gNm 5)) (cSeq (cIfS (cTst (c2 (kLt) (cVar 1) (cK (.fr (.int 2))))) (cRet (cFrz (c2 gAdd (c2 gAdd (cSl (cVar 2) cNoP (cPt (cVar 4))) (cTup (cCons (cVar 5) cNil))) (cSl (cVar 2) (cPt (c2 kSub (c2 gAdd (cVar 4) (cK (.fr (.int 1)))) (cVar 1))) cNoP)))) cNext) (cSeq (cIfS (cTst (c2 (gEq false) (cVar 1) (cK (.fr (.int 2))))) (cRet (cFrz (c2 gAdd (cSl (cVar 2) cNoP (cPt (cVar 4))) (cSl (cVar 2) (cPt (c2 gAdd (cVar 4) (cK (.fr (.int 1))))) cNoP)))) cNext) (cSeq (cIfS (cTst (c2 (gEq false) (cVar 1) (cK (.fr (.int 3))))) (cRet (cFrz (c2 gAdd (c2 gAdd (cSl (cVar 2) cNoP (cPt (cVar 4))) (cSl (cVar 2) (cPt (cVar 4)) (cPt (c2 gAdd (cVar 4) (cK (.fr (.int 1))))))) (cSl (cVar 2) (cPt (cVar 4)) cNoP)))) cNext) (cSeq (cIfS (cTst (c2 (gEq false) (cVar 1) (cK (.fr (.int 4))))) (cRet (cFrz (c2 gAdd (c2 gAdd (cSl (cVar 2) cNoP (cPt (cVar 4))) (cRev (cSl (cVar 2) (cPt (cVar 4)) (cPt (c2 gAdd (cVar 4) (cK (.fr (.int 2)))))))) (cSl (cVar 2) (cPt (c2 gAdd (cVar 4) (cK (.fr (.int 2))))) cNoP)))) cNext) (cRet (cFrz (cRev (cVar 2))))))))))
theorem r__law_bent : ∀ ds Q0 E0, S__law_bent ds Q0 E0 → t__law_bent (dEnds Q0) (ds ++ List.replicate (N__law_bent.length - 4) .gone) := by
  rintro ds Q0 E0 ⟨l, n, many, way, xs, hP, hn, h0way, h1way, hm, hx, rfl, q⟩
  have hxl : (List.map PyData.int xs).length = xs.length := List.length_map _
  simp only [N__law_bent, List.length_cons, List.length_nil, List.cons_append, List.nil_append, Nat.reduceAdd, Nat.reduceSub, Nat.zero_add, List.replicate_succ, List.replicate_zero]; unfold t__law_bent
  o_attr
  rw [hxl]
  refine ⟨_, _, _, hP, by omega, by omega, by omega, rfl, fun l a ds1 hP h0a h1a e1 => ?_⟩; ((with_reducible apply s_up); (· (first | (simp only [upds, List.set_cons_zero, List.set_cons_succ, Option.getD_some, e1]; done) | (simp only [upds, List.set_cons_zero, List.set_cons_succ, Option.getD_some, e1]; rfl)))); o_attr
  obtain ⟨a, rfl⟩ := Int.eq_ofNat_of_zero_le h0a
  o_args
  o_attr
  refine ⟨_, _, many, hP, by omega, by omega, rfl, fun l odd ds1 hP e1 => ?_⟩
  ((with_reducible apply s_up); (· (first | (simp only [upds, List.set_cons_zero, List.set_cons_succ, Option.getD_some, e1]; done) | (simp only [upds, List.set_cons_zero, List.set_cons_succ, Option.getD_some, e1]; rfl))))
  o_attr
  o_args
  have i1 : IL xs.length (xs.map PyData.int) := IL.of (Nat.le_refl _)
  have hc : ∀ lo hi, (cut (List.map PyData.int xs) lo hi).length ≤ 50 := fun lo hi => Nat.le_trans (i1.cut lo hi).len hx
  have c1 := hc none (some (a : Int))
  have c2 := hc (some (a : Int)) none
  have c3 := hc (some (a : Int)) (some ((a : Int) + 1))
  have c4 := hc (some (a : Int)) (some ((a : Int) + 2))
  have c5 := hc (some ((a : Int) + 2)) none
  have c6 := hc (some ((a : Int) + 1)) none
  have c7 := hc (some ((a : Int) + 1 - way)) none
  have q' : ∀ zs : List PyData, IL (3 * xs.length + 2) zs → ∀ ds', ds'[0]? = some (.ow l) → Q0 (.fr (.tuple zs)) ds' := by
    rintro zs ⟨ys, rfl, h3⟩ ds' h
    exact q _ _ _ (hP.mono (by omega)) h h3
  o_attr
  · exact q' _ ((((i1.cut _ _).app (IL.one _)).app (i1.cut _ _)).mono (by omega)) _ rfl
  · exact q' _ (((i1.cut _ _).app (i1.cut _ _)).mono (by omega)) _ rfl
  · exact q' _ ((((i1.cut _ _).app (i1.cut _ _)).app (i1.cut _ _)).mono (by omega)) _ rfl
  · exact q' _ ((((i1.cut _ _).app (i1.cut _ _).rev).app (i1.cut _ _)).mono (by omega)) _ rfl
  · exact q' _ (i1.rev.mono (by omega)) _ rfl
/-! _law_rows_bent -/
--I X18
def RowsOk (n : Nat) (d : PyData) : Prop := ∃ rs : List (List Int), d = pts rs ∧ rs.length ≤ n ∧ ∀ r ∈ rs, r.length ≤ 200
def S__law_rows_bent : VSp := fun ds Q _ => ∃ (l : List PyData) (n many : Nat) (way : Int) (rows : List (List Int)), Pot n l ∧ n < 2 ^ 36 ∧ 0 ≤ way ∧ way < 15 ∧ many ≤ 24 ∧ rows.length ≤ 24 ∧ (∀ r ∈ rows, r.length ≤ 24) ∧ ds = [.ow l, .fr (.int way), .fr (pts rows), .fr (.int (many : Nat))] ∧ ∀ l' d ds', Pot (n + 6) l' → ds'[0]? = some (.ow l') → RowsOk 100 d → Q (.fr d) ds'
theorem len__law_rows_bent : ∀ ds Q E, S__law_rows_bent ds Q E → ds.length = 4 := by rintro _ _ _ ⟨_, _, _, _, _, _, _, _, _, _, _, _, rfl, _⟩; rfl
abbrev N__law_rows_bent : List Str := ["pool", "way", "rows", "many", "at", "to", "cut", "number"]
def t__law_rows_bent : DTS := (cSeq (cAsg (cFrz (cCall [0] S__law_next (cCons (cVar 0) (cCons (c2 gAdd (cFn (g1 gLen) (cCons (cVar 2) cNil)) (cK (.fr (.int 1)))) cNil)))) (gNm 4)) (cSeq (cAsg (cFrz (cCall [0] S__law_next (cCons (cVar 0) (cCons (c2 gAdd (cFn (g1 gLen) (cCons (cVar 2) cNil)) (cK (.fr (.int 1)))) cNil)))) (gNm 5)) (cSeq (cIfS (cAnd (cTst (c2 (kLt) (cVar 4) (cFn (g1 gLen) (cCons (cVar 2) cNil)))) (cTst (c2 (kLt) (cVar 1) (cK (.fr (.int 6)))))) (cRet (cFrz (c2 gAdd (c2 gAdd (cSl (cVar 2) cNoP (cPt (cVar 4))) (cTup (cCons (cFrz (cCall [0] S__law_bent (cCons (cVar 0) (cCons (cVar 1) (cCons (c2 gIx (cVar 2) (cVar 4)) (cCons (cVar 3) cNil)))))) cNil))) (cSl (cVar 2) (cPt (c2 gAdd (cVar 4) (cK (.fr (.int 1))))) cNoP)))) cNext) (cSeq (cIfS (cAnd (cTst (c2 (gEq false) (cVar 1) (cK (.fr (.int 6))))) (cTst (c2 (kLt) (cVar 4) (cFn (g1 gLen) (cCons (cVar 2) cNil))))) (cSeq (cAsg (cFrz (cCall [0] S__law_next (cCons (cVar 0) (cCons (c2 gAdd (cFn (g1 gLen) (cCons (c2 gIx (cVar 2) (cVar 4)) cNil)) (cK (.fr (.int 1)))) cNil)))) (gNm 6)) (cRet (cFrz (c2 gAdd (c2 gAdd (cSl (cVar 2) cNoP (cPt (cVar 4))) (cTup (cCons (cFrz (cSl (c2 gIx (cVar 2) (cVar 4)) cNoP (cPt (cVar 6)))) (cCons (cFrz (cSl (c2 gIx (cVar 2) (cVar 4)) (cPt (cVar 6)) cNoP)) cNil)))) (cSl (cVar 2) (cPt (c2 gAdd (cVar 4) (cK (.fr (.int 1))))) cNoP))))) cNext) (cSeq (cIfS (cAnd (cTst (c2 (gEq false) (cVar 1) (cK (.fr (.int 7))))) (cTst (c2 (kLt) (c2 gAdd (cVar 4) (cK (.fr (.int 1)))) (cFn (g1 gLen) (cCons (cVar 2) cNil))))) (cRet (cFrz (c2 gAdd (c2 gAdd (cSl (cVar 2) cNoP (cPt (cVar 4))) (cTup (cCons (c2 gAdd (c2 gIx (cVar 2) (cVar 4)) (c2 gIx (cVar 2) (c2 gAdd (cVar 4) (cK (.fr (.int 1)))))) cNil))) (cSl (cVar 2) (cPt (c2 gAdd (cVar 4) (cK (.fr (.int 2))))) cNoP)))) cNext) (cSeq (cIfS (cAnd (cTst (c2 (gEq false) (cVar 1) (cK (.fr (.int 8))))) (cTst (c2 (kLt) (cVar 4) (cFn (g1 gLen) (cCons (cVar 2) cNil))))) (cRet (cFrz (c2 gAdd (c2 gAdd (cSl (cVar 2) cNoP (cPt (cVar 5))) (cTup (cCons (c2 gIx (cVar 2) (cVar 4)) cNil))) (cSl (cVar 2) (cPt (cVar 5)) cNoP)))) cNext) (cSeq (cIfS (cTst (c2 (gEq false) (c2 kMod (cVar 5) (cK (.fr (.int 6)))) (cK (.fr (.int 4))))) (cRet (cTup (cCons (cFn (g1 gTpl) (cCons (cLsR (cRgA (cVar 3))) cNil)) cNil))) cNext) (cSeq (cIfS (cTst (c2 (gEq false) (c2 kMod (cVar 5) (cK (.fr (.int 6)))) (cK (.fr (.int 5))))) (cRet (cFn (g1 gTpl) (cCons (cLc [] [7] (cRng1 (cCons (cVar 3) cNil)) (gNm 7) cYes (cTup (cCons (cVar 7) cNil))) cNil))) cNext) (cSeq (cIfS (cTst (c2 (gEq false) (c2 kMod (cVar 5) (cK (.fr (.int 6)))) (cK (.fr (.int 3))))) (cRet (cFrz (c2 gAdd (cSl (cVar 2) (cPt (cVar 4)) cNoP) (cSl (cVar 2) cNoP (cPt (cVar 4)))))) cNext) (cRet (c2 gIx (cLst (cCons (cFrz (cRev (cVar 2))) (cCons (cFrz (c2 gAdd (cSl (cVar 2) cNoP (cPt (cVar 4))) (cSl (cVar 2) (cPt (c2 gAdd (cVar 4) (cK (.fr (.int 1))))) cNoP))) (cCons (cFrz (c2 gAdd (c2 gAdd (cSl (cVar 2) cNoP (cPt (cVar 4))) (cTup (cCons (cTup cNil) cNil))) (cSl (cVar 2) (cPt (cVar 4)) cNoP))) cNil)))) (c2 kMod (cVar 5) (cK (.fr (.int 6)))))))))))))))
def Rws (n : Nat) (xs : List PyData) : Prop := ∃ rs : List (List Int), xs = rs.map pt ∧ rs.length ≤ n ∧ ∀ r ∈ rs, r.length ≤ 200
theorem Rws.app {a b : Nat} {xs ys : List PyData} (h : Rws a xs) (k : Rws b ys) : Rws (a + b) (xs ++ ys) := by
  obtain ⟨r, rfl, h1, h2⟩ := h
  obtain ⟨t, rfl, h3, h4⟩ := k
  exact ⟨r ++ t, by rw [List.map_append], by rw [List.length_append]; omega, fun x hx => (List.mem_append.mp hx).elim (h2 x) (h4 x)⟩
theorem Rws.cut {a : Nat} {xs : List PyData} (h : Rws a xs) (lo hi : Option Int) : Rws a (DL.cut xs lo hi) := by
  obtain ⟨r, rfl, h1, h2⟩ := h
  refine ⟨cutG r lo hi, cut_map pt r lo hi, ?_, fun x hx => h2 x ?_⟩
  · exact Nat.le_trans (by unfold cutG; rw [List.length_take, List.length_drop]; omega) h1
  · unfold cutG at hx
    exact List.mem_of_mem_drop (List.mem_of_mem_take hx)
theorem Rws.rev {a : Nat} {xs : List PyData} (h : Rws a xs) : Rws a xs.reverse := by
  obtain ⟨r, rfl, h1, h2⟩ := h
  exact ⟨r.reverse, by rw [List.map_reverse], by rw [List.length_reverse]; exact h1, fun x hx => h2 x (List.mem_reverse.mp hx)⟩
theorem Rws.one {d : PyData} (h : ∃ r : List Int, d = pt r ∧ r.length ≤ 200) : Rws 1 [d] := by
  obtain ⟨r, rfl, h⟩ := h
  exact ⟨[r], rfl, Nat.le_refl _, fun x hx => by rw [List.mem_singleton.mp hx]; exact h⟩
theorem Rws.ok {a n : Nat} {xs : List PyData} (h : Rws a xs) (k : a ≤ n) : RowsOk n (.tuple xs) := by
  obtain ⟨r, rfl, h1, h2⟩ := h
  exact ⟨r, rfl, Nat.le_trans h1 k, h2⟩
theorem Rws.mono {a n : Nat} {xs : List PyData} (h : Rws a xs) (k : a ≤ n) : Rws n xs := by
  obtain ⟨r, e, h1, h2⟩ := h
  exact ⟨r, e, Nat.le_trans h1 k, h2⟩
theorem Rws.len {a : Nat} {xs : List PyData} (h : Rws a xs) : xs.length ≤ a := by
  obtain ⟨r, rfl, h1, h2⟩ := h
  rw [List.length_map]; exact h1
theorem il_pt {a : Nat} {xs : List PyData} (h : IL a xs) (k : a ≤ 200) : ∃ r : List Int, (PyData.tuple xs) = pt r ∧ r.length ≤ 200 := by
  obtain ⟨so, rfl, h⟩ := h
  exact ⟨so, rfl, Nat.le_trans h k⟩
theorem r__law_rows_bent : ∀ ds Q0 E0, S__law_rows_bent ds Q0 E0 → t__law_rows_bent (dEnds Q0) (ds ++ List.replicate (N__law_rows_bent.length - 4) .gone) := by
  rintro ds Q0 E0 ⟨l, n, many, way, rows, hP, hn, h0way, h1way, hm, hr, hrl, rfl, q⟩
  have hxl : (List.map pt rows).length = rows.length := List.length_map _
  have i1 : Rws 24 (rows.map pt) := ⟨rows, rfl, hr, fun r h => Nat.le_trans (hrl r h) (by decide)⟩
  have hc : ∀ lo hi, (cut (List.map pt rows) lo hi).length ≤ 24 := fun lo hi => (i1.cut lo hi).len
  simp only [N__law_rows_bent, List.length_cons, List.length_nil, List.cons_append, List.nil_append, Nat.reduceAdd, Nat.reduceSub, Nat.zero_add, List.replicate_succ, List.replicate_zero]; unfold t__law_rows_bent
  o_attr
  rw [hxl]
  refine ⟨_, _, _, hP, by omega, by omega, by omega, rfl, fun l a ds1 hP h0a h1a e1 => ?_⟩; ((with_reducible apply s_up); (· (first | (simp only [upds, List.set_cons_zero, List.set_cons_succ, Option.getD_some, e1]; done) | (simp only [upds, List.set_cons_zero, List.set_cons_succ, Option.getD_some, e1]; rfl)))); o_attr
  obtain ⟨a, rfl⟩ := Int.eq_ofNat_of_zero_le h0a
  o_args
  o_attr
  rw [hxl]
  refine ⟨_, _, _, hP, by omega, by omega, by omega, rfl, fun l t ds1 hP h0t h1t e1 => ?_⟩; ((with_reducible apply s_up); (· (first | (simp only [upds, List.set_cons_zero, List.set_cons_succ, Option.getD_some, e1]; done) | (simp only [upds, List.set_cons_zero, List.set_cons_succ, Option.getD_some, e1]; rfl)))); o_attr
  o_args
  have c1 := hc none (some (a : Int))
  have c2 := hc (some (a : Int)) none
  have c3 := hc (some ((a : Int) + 1)) none
  have c4 := hc (some ((a : Int) + 2)) none
  have c5 := hc none (some t)
  have c6 := hc (some t) none
  have q' : ∀ xs : List PyData, Rws 100 xs → ∀ ds', ds'[0]? = some (.ow l) → Q0 (.fr (.tuple xs)) ds' := fun xs h ds' e => q _ _ _ (hP.mono (by omega)) e (h.ok (Nat.le_refl _))
  let J : List Vl → Prop := fun st => st = [.ow l, .fr (.int way), .fr (pts rows), .fr (.int (many : Nat)), .fr (.int (a : Nat)), .fr (.int t), .gone, .gone]
  with_reducible refine s_seqCut J (fun K hK => ?_) ?_
  · o_attr
    · have ha : a < rows.length := by omega
      refine s_ixT rfl (ptsAt ha) ?_
      o_attr
      have hrr := hrl _ (getD_mem ha)
      refine ⟨_, _, many, way, _, hP, by omega, h0way, h1way, hm, by omega, rfl, fun l zs ds1 hP e1 hz => ?_⟩
      ((with_reducible apply s_up); (· (first | (simp only [upds, List.set_cons_zero, List.set_cons_succ, Option.getD_some, e1]; done) | (simp only [upds, List.set_cons_zero, List.set_cons_succ, Option.getD_some, e1]; rfl))))
      o_attr
      exact q _ _ _ (hP.mono (by omega)) rfl ((((i1.cut _ _).app (Rws.one ⟨zs, rfl, by omega⟩)).app (i1.cut _ _)).ok (by decide))
    · exact hK _ rfl
    · exact hK _ rfl
  rintro st rfl
  with_reducible refine s_seqCut J (fun K hK => ?_) ?_
  · o_attr
    · have ha : a < rows.length := by omega
      refine s_ixT rfl (ptsAt ha) ?_
      have hrr := hrl _ (getD_mem ha)
      have hrm : ((rows.getD a []).map PyData.int).length = (rows.getD a []).length := List.length_map _
      o_attr
      rw [hrm]
      refine ⟨_, _, _, hP, by omega, by omega, by omega, rfl, fun l c ds1 hP h0c h1c e1 => ?_⟩; ((with_reducible apply s_up); (· (first | (simp only [upds, List.set_cons_zero, List.set_cons_succ, Option.getD_some, e1]; done) | (simp only [upds, List.set_cons_zero, List.set_cons_succ, Option.getD_some, e1]; rfl)))); o_attr
      o_args
      o_attr
      refine s_ixT rfl (ptsAt ha) ?_
      o_attr
      refine s_ixT rfl (ptsAt ha) ?_
      o_attr
      have j1 : IL 24 ((rows.getD a []).map PyData.int) := IL.of hrr
      exact q _ _ _ (hP.mono (by omega)) rfl ((((i1.cut _ _).app ((Rws.one (il_pt (j1.cut _ _) (by decide))).app (Rws.one (il_pt (j1.cut _ _) (by decide))))).app (i1.cut _ _)).ok (by decide))
    · exact hK _ rfl
    · exact hK _ rfl
  rintro st rfl
  with_reducible refine s_seqCut J (fun K hK => ?_) ?_
  · o_attr
    · have ha : a + 1 < rows.length := by omega
      refine s_ixT rfl (ptsAt (i := a) (by omega)) ?_
      o_attr
      refine s_ixT rfl (ptsAt (i := a + 1) ha) ?_
      have hr1 := hrl _ (getD_mem (i := a) (by omega))
      have hr2 := hrl _ (getD_mem (i := a + 1) ha)
      o_attr
      have j1 : IL 24 ((rows.getD a []).map PyData.int) := IL.of hr1
      have j2 : IL 24 ((rows.getD (a + 1) []).map PyData.int) := IL.of hr2
      exact q' _ ((((i1.cut _ _).app (Rws.one (il_pt (j1.app j2) (by decide)))).app (i1.cut _ _)).mono (by decide)) _ rfl
    · exact hK _ rfl
    · exact hK _ rfl
  rintro st rfl
  with_reducible refine s_seqCut J (fun K hK => ?_) ?_
  · o_attr
    · have ha : a < rows.length := by omega
      refine s_ixT rfl (ptsAt ha) ?_
      have hr1 := hrl _ (getD_mem ha)
      o_attr
      exact q' _ ((((i1.cut _ _).app (Rws.one ⟨_, rfl, by omega⟩)).app (i1.cut _ _)).mono (by decide)) _ rfl
    · exact hK _ rfl
    · exact hK _ rfl
  rintro st rfl
  have hrg : ∃ r : List Int, (PyData.tuple (rng 0 (many : Nat))) = pt r ∧ r.length ≤ 200 := ⟨(List.range many).map fun (i : Nat) => (i : Int), by rw [rngN, pt, List.map_map]; rfl, by rw [List.length_map, List.length_range]; omega⟩
  o_attr
  · exact q' _ ((Rws.one hrg).mono (by decide)) _ rfl
  · refine s_rng1K (by omega) (by omega) ?_
    o_attr
    apply s_lcMap (List.range many) (fun (i : Nat) => .int (i : Int)) (fun (i : Nat) => Option.some (.tuple [.int (i : Int)])) (rngN many); (· (first | (simp only [wipeD, List.set_cons_zero, List.set_cons_succ]; done) | (simp only [wipeD, List.set_cons_zero, List.set_cons_succ]; rfl))); (· (first | (simp only [rst, List.set_cons_zero, List.set_cons_succ, Option.getD_some, List.getElem?_cons_zero, List.getElem?_cons_succ]; done) | (simp only [rst, List.set_cons_zero, List.set_cons_succ, Option.getD_some, List.getElem?_cons_zero, List.getElem?_cons_succ]; rfl)))
    · trivial
    · rw [List.length_range]; exact small (k := 24) hm
    · intro i _ K hK
      o_norm
      exact hK
    rw [fmap_some]
    o_attr
    exact q' _ ⟨(List.range many).map fun (i : Nat) => [(i : Int)], by rw [List.map_map]; rfl, by rw [List.length_map, List.length_range]; omega, fun r hr => by obtain ⟨i, _, rfl⟩ := List.mem_map.mp hr; exact (show 1 ≤ 200 by decide)⟩ _ rfl
  · exact q' _ (((i1.cut _ _).app (i1.cut _ _)).mono (by decide)) _ rfl
  · refine s_ixD (f := fun d => RowsOk 100 d) rfl (atI_allD (by omega) (by simp only [List.length_cons, List.length_nil]; omega) fun d hd => ?_) ?_
    · simp only [List.mem_cons, List.not_mem_nil, or_false] at hd
      rcases hd with rfl | rfl | rfl
      · exact i1.rev.ok (by decide)
      · exact ((i1.cut _ _).app (i1.cut _ _)).ok (by decide)
      · exact (((i1.cut _ _).app (Rws.one ⟨[], rfl, by decide⟩)).app (i1.cut _ _)).ok (by decide)
    rintro d hd
    o_attr
    exact q _ _ _ (hP.mono (by omega)) rfl hd
/-! _law_mids -/
--I X18
def midOf (some : List Int) (r : List Int) : Int := (r.filter fun x => decide (x ∈ some)).getD 0 0
theorem midOf_mem {some r : List Int} (h : ∃ x ∈ r, x ∈ some) : midOf some r ∈ r ∧ midOf some r ∈ some := by
  obtain ⟨x, h1, h2⟩ := h
  have hx : x ∈ r.filter fun x => decide (x ∈ some) := List.mem_filter.mpr ⟨h1, decide_eq_true h2⟩
  have hm : midOf some r ∈ r.filter fun x => decide (x ∈ some) := by
    unfold midOf
    rw [List.getD_eq_getElem?_getD, List.getElem?_eq_getElem (List.length_pos_of_mem hx)]
    exact List.getElem_mem _
  have := List.mem_filter.mp hm
  exact ⟨this.1, of_decide_eq_true this.2⟩
def S__law_mids : VSp := fun ds Q _ => ∃ (some : List Int) (rows : List (List Int)), some.length ≤ 60 ∧ rows.length ≤ 100 ∧ (∀ r ∈ rows, r.length ≤ 200) ∧ (∀ r ∈ rows, ∃ x ∈ r, x ∈ some) ∧ ds = [.fr (pt some), .fr (pts rows)] ∧ ∀ ds', Q (.fr (.list ((rows.map (midOf some)).map .int))) ds'
theorem len__law_mids : ∀ ds Q E, S__law_mids ds Q E → ds.length = 2 := by rintro _ _ _ ⟨_, _, _, _, _, _, rfl, _⟩; rfl
abbrev N__law_mids : List Str := ["some", "rows", "row", "number"]
def t__law_mids : DTS := (cRet (cFrz (cLc [] [2] (cSeqI (cVar 1)) (gNm 2) cYes (c2 gIx (cLc [] [3] (cSeqI (cVar 2)) (gNm 3) (cTst (c2 (gIn false) (cVar 3) (cVar 0))) (cVar 3)) (cK (.fr (.int 0)))))))
theorem any_int (some : List Int) (x : Int) : ((some.map PyData.int).any fun z => PyData.eqv z (.int x)) = decide (x ∈ some) := by
  rw [List.any_map, Bool.eq_iff_iff, List.any_eq_true, decide_eq_true_eq]
  constructor
  · rintro ⟨y, hy, h⟩
    have h : PyData.eqv (.int y) (.int x) = true := h
    rw [eqv_int, decide_eq_true_eq] at h
    exact h ▸ hy
  · intro h
    exact ⟨x, h, by show PyData.eqv (.int x) (.int x) = true; rw [eqv_int, decide_eq_true rfl]⟩
theorem r__law_mids : ∀ ds Q0 E0, S__law_mids ds Q0 E0 → t__law_mids (dEnds Q0) (ds ++ List.replicate (N__law_mids.length - 2) .gone) := by
  rintro ds Q0 E0 ⟨some, rows, hs, hr, hrl, hm, rfl, q⟩
  simp only [N__law_mids, List.length_cons, List.length_nil, List.cons_append, List.nil_append, Nat.reduceAdd, Nat.reduceSub, Nat.zero_add, List.replicate_succ, List.replicate_zero]; unfold t__law_mids
  o_attr
  apply s_lcMap rows pt (fun r => Option.some (.int (midOf some r))) rfl; (· (first | (simp only [wipeD, List.set_cons_zero, List.set_cons_succ]; done) | (simp only [wipeD, List.set_cons_zero, List.set_cons_succ]; rfl))); (· (first | (simp only [rst, List.set_cons_zero, List.set_cons_succ, Option.getD_some, List.getElem?_cons_zero, List.getElem?_cons_succ]; done) | (simp only [rst, List.set_cons_zero, List.set_cons_succ, Option.getD_some, List.getElem?_cons_zero, List.getElem?_cons_succ]; rfl)))
  · trivial
  · exact small (k := 100) hr
  · intro r hrm K hK
    o_norm
    apply s_lcMap r .int (fun x => if decide (x ∈ some) = true then Option.some (.int x) else none) rfl; (· (first | (simp only [wipeD, List.set_cons_zero, List.set_cons_succ]; done) | (simp only [wipeD, List.set_cons_zero, List.set_cons_succ]; rfl))); (· (first | (simp only [rst, List.set_cons_zero, List.set_cons_succ, Option.getD_some, List.getElem?_cons_zero, List.getElem?_cons_succ]; done) | (simp only [rst, List.set_cons_zero, List.set_cons_succ, Option.getD_some, List.getElem?_cons_zero, List.getElem?_cons_succ]; rfl)))
    · trivial
    · exact small (k := 200) (hrl r hrm)
    · intro x hx K2 hK2
      o_norm
      refine s_inT rfl rfl (by rfl) (dep_ints _ _) ?_
      rw [any_int]
      o_attr
      · rw [if_pos (decide_eq_true (by assumption))] at hK2
        exact hK2
      · rw [if_neg (by rw [decide_eq_false (by assumption)]; decide)] at hK2
        exact hK2
    rw [fmap_if]
    o_attr
    obtain ⟨x, h1, h2⟩ := hm r hrm
    have hx : x ∈ r.filter fun x => decide (x ∈ some) := List.mem_filter.mpr ⟨h1, decide_eq_true h2⟩
    refine s_ixL rfl (intsAt (i := 0) (List.length_pos_of_mem hx)) ?_
    o_attr
    exact hK
  rw [fmap_some]
  o_attr
  rw [List.map_map] at q
  exact q _
/-! _law_doubled -/
--I X18
def S__law_doubled : VSp := fun ds Q _ => ∃ (l : List PyData) (n : Nat) (ps rows : List (List Int)), Pot n l ∧ n < 2 ^ 36 ∧ Pts ps ∧ ps.length ≤ 24 ∧ rows.length ≤ 24 ∧ (∀ r ∈ rows, r.length ≤ 24 ∧ r ≠ [] ∧ ∀ x ∈ r, 0 ≤ x ∧ x.toNat < ps.length) ∧ ds = [.ow l, .fr (pts ps), .fr (pts rows)] ∧ ∀ l' (rs : List (List Int)) ds', Pot (n + 6) l' → ds'[0]? = Option.some (.ow l') → rs.length ≤ 100 → (∀ r ∈ rs, r.length ≤ 200) → Q (.fr (pts rs)) ds'
theorem len__law_doubled : ∀ ds Q E, S__law_doubled ds Q E → ds.length = 3 := by rintro _ _ _ ⟨_, _, _, _, _, _, _, _, _, _, rfl, _⟩; rfl
abbrev N__law_doubled : List Str := ["pool", "points", "rows", "pairs", "k", "row", "others", "one"]
def t__law_doubled : DTS := (cSeq (cAsg (cLst cNil) (gNm 3)) (cSeq (cFor [] (cEnum (cCons (cVar 2) cNil)) (gTu 2 (gsCons (gNm 4) (gsCons (gNm 5) gsNil))) (cSeq (cAsg (cFrz (cLc [] [7] (cRng1 (cCons (cFn (g1 gLen) (cCons (cVar 1) cNil)) cNil)) (gNm 7) (cTst (c2 (gIn true) (cVar 7) (cVar 5))) (cVar 7))) (gNm 6)) (cDrop (cExt (cVar 3) (cCons (cLc [] [7] (cSeqI (cVar 6)) (gNm 7) (cTst (cCall [] S__law_over (cCons (c2 gIx (cVar 1) (cVar 7)) (cCons (c2 gIx (cVar 1) (c2 gIx (cVar 5) (cK (.fr (.int 0))))) cNil)))) (cTup (cCons (cVar 4) (cCons (cVar 7) cNil)))) cNil))))) (cSeq (cIfS (cTst (c2 (gEq false) (cVar 3) (cLst cNil))) (cRet (cVar 2)) cNext) (cSeq (cAsg (c2 gIx (cVar 3) (cCall [0] S__law_next (cCons (cVar 0) (cCons (cFn (g1 gLen) (cCons (cVar 3) cNil)) cNil)))) (gTu 2 (gsCons (gNm 4) (gsCons (gNm 7) gsNil)))) (cRet (cFrz (c2 gAdd (c2 gAdd (cSl (cVar 2) cNoP (cPt (cVar 4))) (cTup (cCons (c2 gAdd (cTup (cCons (cVar 7) cNil)) (c2 gIx (cVar 2) (cVar 4))) cNil))) (cSl (cVar 2) (cPt (c2 gAdd (cVar 4) (cK (.fr (.int 1))))) cNoP))))))))
theorem cutG_lenA {α : Type} (l : List α) (lo hi : Option Int) : (cutG l lo hi).length ≤ l.length := by unfold cutG; rw [List.length_take, List.length_drop]; omega
theorem cutG_memA {α : Type} {l : List α} {lo hi : Option Int} {x : α} (h : x ∈ cutG l lo hi) : x ∈ l := by unfold cutG at h; exact List.mem_of_mem_drop (List.mem_of_mem_take h)
def prNA (p : Nat × Nat) : PyData := .tuple [.int (p.1 : Int), .int (p.2 : Int)]
theorem any_int2A (some : List Int) (x : Int) : ((some.map PyData.int).any fun z => PyData.eqv z (.int x)) = decide (x ∈ some) := by
  rw [List.any_map, Bool.eq_iff_iff, List.any_eq_true, decide_eq_true_eq]
  constructor
  · rintro ⟨y, hy, h⟩
    have h : PyData.eqv (.int y) (.int x) = true := h
    rw [eqv_int, decide_eq_true_eq] at h
    exact h ▸ hy
  · intro h
    exact ⟨x, h, by show PyData.eqv (.int x) (.int x) = true; rw [eqv_int, decide_eq_true rfl]⟩
theorem dep_prNA (prs : List (Nat × Nat)) : dep 60 (.list (prs.map prNA)) = true := by
  simp only [dep]
  rw [List.all_map]
  exact List.all_eq_true.mpr fun p _ => rfl
theorem r__law_doubled : ∀ ds Q0 E0, S__law_doubled ds Q0 E0 → t__law_doubled (dEnds Q0) (ds ++ List.replicate (N__law_doubled.length - 3) .gone) := by
  rintro ds Q0 E0 ⟨l, n, ps, rows, hP, hn, hp, hps, hr, hrl, rfl, q⟩
  have hpl : (List.map pt ps).length = ps.length := List.length_map _
  have hxl : (List.map pt rows).length = rows.length := List.length_map _
  simp only [N__law_doubled, List.length_cons, List.length_nil, List.cons_append, List.nil_append, Nat.reduceAdd, Nat.reduceSub, Nat.zero_add, List.replicate_succ, List.replicate_zero]; unfold t__law_doubled
  o_attr
  o_args
  with_reducible refine s_seqCut (fun st => ∃ (prs : List (Nat × Nat)) (d4 d5 d6 : Vl), prs.length ≤ 24 * rows.length ∧ (∀ p ∈ prs, p.1 < rows.length ∧ p.2 < ps.length) ∧ st = [.ow l, .fr (pts ps), .fr (pts rows), .ow (prs.map prNA), d4, d5, d6, .gone]) (fun K hK => ?_) ?_
  · o_attr
    refine s_forMap rows.zipIdx (fun p => .tuple [.int (p.2 : Nat), pt p.1]) (fun l' st => ∃ (pre : List (List Int × Nat)) (prs : List (Nat × Nat)) (d4 d5 d6 : Vl), rows.zipIdx = pre ++ l' ∧ prs.length ≤ 24 * pre.length ∧ (∀ p ∈ prs, p.1 < rows.length ∧ p.2 < ps.length) ∧ (d6 = .gone ∨ ∃ x, d6 = .fr x) ∧ st = [.ow l, .fr (pts ps), .fr (pts rows), .ow (prs.map prNA), d4, d5, d6, .gone]) (enum_map pt rows 0) rfl ⟨[], [], _, _, _, rfl, by simp, by simp, .inl rfl, rfl⟩ ?_ ?_
    · rintro ⟨r, k⟩ l' st ⟨pre, prs, d4, d5, d6, hpre, hprs, hin, hd, rfl⟩ K2 hK2
      have hm : (r, k) ∈ rows.zipIdx := by rw [hpre]; simp
      have hk : k < rows.length := by have := List.snd_lt_of_mem_zipIdx hm; omega
      have hrm : r ∈ rows := by
        have := List.mem_zipIdx_iff_getElem?.mp hm
        exact List.mem_of_getElem? this
      obtain ⟨h24, hne, hrin⟩ := hrl r hrm
      have hpc : pre.length ≤ 24 := by
        have : rows.zipIdx.length = rows.length := List.length_zipIdx
        rw [hpre, List.length_append] at this
        omega
      obtain ⟨x0, hx0, hx0r⟩ : ∃ x, atI (r.map PyData.int) 0 = Option.some (.int x) ∧ x ∈ r := by
        cases r with
        | nil => exact absurd rfl hne
        | cons x r => exact ⟨x, atI_0 _ _, List.mem_cons_self⟩
      obtain ⟨b1, b2⟩ := hrin x0 hx0r
      o_norm
      rw [hpl]
      refine s_rng1K (by omega) (by omega) ?_
      refine ⟨rfl, by rcases hd with rfl | ⟨x, rfl⟩ <;> rfl, ?_⟩
      apply s_lcMap (List.range ps.length) (fun (i : Nat) => .int (i : Int)) (fun (i : Nat) => if decide ((i : Int) ∉ r) = true then Option.some (.int (i : Int)) else none) (rngN ps.length); (· (first | (simp only [wipeD, List.set_cons_zero, List.set_cons_succ]; done) | (simp only [wipeD, List.set_cons_zero, List.set_cons_succ]; rfl))); (· (first | (simp only [rst, List.set_cons_zero, List.set_cons_succ, Option.getD_some, List.getElem?_cons_zero, List.getElem?_cons_succ]; done) | (simp only [rst, List.set_cons_zero, List.set_cons_succ, Option.getD_some, List.getElem?_cons_zero, List.getElem?_cons_succ]; rfl)))
      · trivial
      · rw [List.length_range]; exact small (k := 24) hps
      · intro i hi K3 hK3
        o_norm
        refine s_ninT rfl rfl (by rfl) (dep_ints _ _) ?_
        rw [any_int2A]
        o_attr
        · rw [if_neg (by simp [h])] at hK3
          exact hK3
        · rw [if_pos (by simp [h])] at hK3
          exact hK3
      rw [fmap_if]
      o_norm
      obtain ⟨ot, eot⟩ : ∃ ot, (List.range ps.length).filter (fun (i : Nat) => decide ((i : Int) ∉ r)) = ot := ⟨_, rfl⟩
      have hot : ∀ i ∈ ot, i < ps.length := fun i hi => by
        rw [← eot] at hi
        exact List.mem_range.mp (List.mem_filter.mp hi).1
      have hol : ot.length ≤ 24 := by rw [← eot]; exact Nat.le_trans (List.length_filter_le _ _) (by rw [List.length_range]; exact hps)
      rw [eot]
      apply s_lcMap ot (fun (i : Nat) => .int (i : Int)) (fun (i : Nat) => if beats (ps.getD i []) (ps.getD x0.toNat []) = true then Option.some (prNA (k, i)) else none) rfl; (· (first | (simp only [wipeD, List.set_cons_zero, List.set_cons_succ]; done) | (simp only [wipeD, List.set_cons_zero, List.set_cons_succ]; rfl))); (· (first | (simp only [rst, List.set_cons_zero, List.set_cons_succ, Option.getD_some, List.getElem?_cons_zero, List.getElem?_cons_succ]; done) | (simp only [rst, List.set_cons_zero, List.set_cons_succ, Option.getD_some, List.getElem?_cons_zero, List.getElem?_cons_succ]; rfl)))
      · trivial
      · exact small (k := 24) hol
      · intro i hi K3 hK3
        have hi := hot i hi
        o_norm
        refine s_ixT rfl (ptsAt hi) ?_
        o_attr
        refine s_ixT rfl (ptsAtI b1 (by omega)) ?_
        o_attr
        refine ⟨_, _, hp.at_ hi, hp.at_ b2, rfl, fun ds' => ?_⟩
        o_attr
        refine s_br (fun h => ?_) (fun h => ?_)
        · rw [if_pos h] at hK3
          o_attr
          exact hK3
        · rw [if_neg (by rw [h]; decide)] at hK3
          o_attr
          exact hK3
      rw [fmap_if]
      obtain ⟨ov, eov⟩ : ∃ ov, ot.filter (fun (i : Nat) => beats (ps.getD i []) (ps.getD x0.toNat [])) = ov := ⟨_, rfl⟩
      have hov : ∀ i ∈ ov, i < ps.length := fun i hi => by
        rw [← eov] at hi
        exact hot i (List.mem_filter.mp hi).1
      have hvl : ov.length ≤ 24 := by rw [← eov]; exact Nat.le_trans (List.length_filter_le _ _) hol
      rw [eov]
      have e1 : (ov.map fun i => prNA (k, i)) = (ov.map fun i => (k, i)).map prNA := by rw [List.map_map]; rfl
      rw [e1]
      have h5 := Nat.mul_le_mul_left 24 hpc
      have l1 : (prs.map prNA).length = prs.length := List.length_map _
      have l2 : ((ov.map fun i => (k, i)).map prNA).length = ov.length := by rw [List.length_map, List.length_map]
      o_attr
      rw [← List.map_append]
      refine hK2 _ ⟨pre ++ [(r, k)], prs ++ ov.map fun i => (k, i), _, _, _, by rw [hpre, List.append_assoc]; rfl, by rw [List.length_append, List.length_append, List.length_map, List.length_singleton]; omega, fun p hp => ?_, .inr ⟨_, rfl⟩, rfl⟩ rfl
      rcases List.mem_append.mp hp with hp | hp
      · exact hin p hp
      · obtain ⟨i, hi, rfl⟩ := List.mem_map.mp hp
        exact ⟨hk, hov i hi⟩
    · rintro st ⟨pre, prs, d4, d5, d6, hpre, hprs, hin, hd, rfl⟩
      o_attr
      rw [List.append_nil] at hpre
      exact hK _ ⟨prs, _, _, _, by rw [← hpre, List.length_zipIdx] at hprs; exact hprs, hin, rfl⟩
  rintro st ⟨prs, d4, d5, d6, hprs, hin, rfl⟩
  have h5 := Nat.mul_le_mul_left 24 hr
  have l1 : (prs.map prNA).length = prs.length := List.length_map _
  o_attr
  refine s_eq rfl rfl (by exact dep_prNA prs) (by rfl) ?_
  rw [eqv_nil]
  o_attr
  · refine q _ rows [_, _, _, _, _, _, _, _] (hP.mono (by omega)) rfl (by omega) fun r h => Nat.le_trans (hrl r h).1 (by decide)
  · have hne : prs ≠ [] := fun z => by
      rw [z] at h
      exact h rfl
    have hpos := List.length_pos_iff.mpr hne
    refine ⟨_, _, _, hP, by omega, by omega, by omega, rfl, fun l x ds1 hP h0x h1x e1 => ?_⟩; ((with_reducible apply s_up); (· (first | (simp only [upds, List.set_cons_zero, List.set_cons_succ, Option.getD_some, e1]; done) | (simp only [upds, List.set_cons_zero, List.set_cons_succ, Option.getD_some, e1]; rfl)))); o_attr
    obtain ⟨x, rfl⟩ := Int.eq_ofNat_of_zero_le h0x
    have hx2 : x < prs.length := by omega
    obtain ⟨h6, h7⟩ := hin _ (List.getElem_mem hx2)
    refine s_ixL (x := prNA prs[x]) rfl (by apply atI_ok; rw [List.getElem?_map, List.getElem?_eq_getElem hx2]; rfl) ?_
    obtain ⟨pr, epr⟩ : ∃ pr, prs[x] = pr := ⟨_, rfl⟩
    rw [epr] at h6 h7 ⊢
    unfold prNA
    o_norm
    refine s_ixT rfl (ptsAt h6) ?_
    have hrr := (hrl _ (getD_mem h6)).1
    have hr1 : ((rows.getD pr.1 []).map PyData.int).length = (rows.getD pr.1 []).length := List.length_map _
    have c1 : (cut (rows.map pt) none (Option.some (pr.1 : Int))).length ≤ 24 := by rw [cut_map, List.length_map]; exact Nat.le_trans (cutG_lenA _ _ _) hr
    have c2 : (cut (rows.map pt) (Option.some ((pr.1 : Int) + 1)) none).length ≤ 24 := by rw [cut_map, List.length_map]; exact Nat.le_trans (cutG_lenA _ _ _) hr
    o_attr
    have e2 : cut (rows.map pt) none (Option.some (pr.1 : Int)) ++ [PyData.tuple ([PyData.int (pr.2 : Int)] ++ (rows.getD pr.1 []).map PyData.int)] ++ cut (rows.map pt) (Option.some ((pr.1 : Int) + 1)) none = (cutG rows none (Option.some (pr.1 : Int)) ++ [(pr.2 : Int) :: rows.getD pr.1 []] ++ cutG rows (Option.some ((pr.1 : Int) + 1)) none).map pt := by
      rw [List.map_append, List.map_append, cut_map, cut_map]; rfl
    rw [e2]
    have d1 := cutG_lenA rows none (Option.some (pr.1 : Int))
    have d2 := cutG_lenA rows (Option.some ((pr.1 : Int) + 1)) none
    refine q _ _ [_, _, _, _, _, _, _, _] (hP.mono (by omega)) rfl (by simp only [List.length_append, List.length_cons, List.length_nil]; omega) fun r hr => ?_
    simp only [List.mem_append, List.mem_cons, List.not_mem_nil, or_false] at hr
    rcases hr with (hr | rfl) | hr
    · exact Nat.le_trans (hrl _ (cutG_memA hr)).1 (by decide)
    · rw [List.length_cons]; omega
    · exact Nat.le_trans (hrl _ (cutG_memA hr)).1 (by decide)
/-! _law_in_place -/
--I X18
def S__law_in_place : VSp := fun ds Q _ => ∃ (l : List PyData) (n : Nat) (ps rows : List (List Int)), Pot n l ∧ n < 2 ^ 36 ∧ Pts ps ∧ ps.length ≤ 24 ∧ rows.length ≤ 24 ∧ (∀ r ∈ rows, r.length ≤ 24 ∧ r ≠ [] ∧ ∀ x ∈ r, 0 ≤ x ∧ x.toNat < ps.length) ∧ ds = [.ow l, .fr (pts ps), .fr (pts rows)] ∧ ∀ l' (rs : List (List Int)) ds', Pot (n + 6) l' → ds'[0]? = Option.some (.ow l') → rs.length ≤ 100 → (∀ r ∈ rs, r.length ≤ 200) → Q (.fr (pts rs)) ds'
theorem len__law_in_place : ∀ ds Q E, S__law_in_place ds Q E → ds.length = 3 := by rintro _ _ _ ⟨_, _, _, _, _, _, _, _, _, _, rfl, _⟩; rfl
abbrev N__law_in_place : List Str := ["pool", "points", "rows", "pairs", "k", "row", "others", "one"]
def t__law_in_place : DTS := (cSeq (cAsg (cLst cNil) (gNm 3)) (cSeq (cFor [] (cEnum (cCons (cVar 2) cNil)) (gTu 2 (gsCons (gNm 4) (gsCons (gNm 5) gsNil))) (cSeq (cAsg (cFrz (cLc [] [7] (cRng1 (cCons (cFn (g1 gLen) (cCons (cVar 1) cNil)) cNil)) (gNm 7) (cTst (c2 (gIn true) (cVar 7) (cVar 5))) (cVar 7))) (gNm 6)) (cDrop (cExt (cVar 3) (cCons (cLc [] [7] (cSeqI (cVar 6)) (gNm 7) (cOr (cTst (c2 (gEq false) (cFn (g1 gLen) (cCons (cVar 5) cNil)) (cK (.fr (.int 1))))) (cTst (cCall [] S__law_over (cCons (c2 gIx (cVar 1) (c2 gIx (cVar 5) (c1 gNeg (cK (.fr (.int 2)))))) (cCons (c2 gIx (cVar 1) (cVar 7)) cNil))))) (cTup (cCons (cVar 4) (cCons (cVar 7) cNil)))) cNil))))) (cSeq (cIfS (cTst (c2 (gEq false) (cVar 3) (cLst cNil))) (cRet (cVar 2)) cNext) (cSeq (cAsg (c2 gIx (cVar 3) (cCall [0] S__law_next (cCons (cVar 0) (cCons (cFn (g1 gLen) (cCons (cVar 3) cNil)) cNil)))) (gTu 2 (gsCons (gNm 4) (gsCons (gNm 7) gsNil)))) (cRet (cFrz (c2 gAdd (c2 gAdd (cSl (cVar 2) cNoP (cPt (cVar 4))) (cTup (cCons (cFrz (c2 gAdd (cSl (c2 gIx (cVar 2) (cVar 4)) cNoP (cPt (c1 gNeg (cK (.fr (.int 1)))))) (cTup (cCons (cVar 7) cNil)))) cNil))) (cSl (cVar 2) (cPt (c2 gAdd (cVar 4) (cK (.fr (.int 1))))) cNoP))))))))
theorem cutG_lenB {α : Type} (l : List α) (lo hi : Option Int) : (cutG l lo hi).length ≤ l.length := by unfold cutG; rw [List.length_take, List.length_drop]; omega
theorem cutG_memB {α : Type} {l : List α} {lo hi : Option Int} {x : α} (h : x ∈ cutG l lo hi) : x ∈ l := by unfold cutG at h; exact List.mem_of_mem_drop (List.mem_of_mem_take h)
def prNB (p : Nat × Nat) : PyData := .tuple [.int (p.1 : Int), .int (p.2 : Int)]
theorem any_int2B (some : List Int) (x : Int) : ((some.map PyData.int).any fun z => PyData.eqv z (.int x)) = decide (x ∈ some) := by
  rw [List.any_map, Bool.eq_iff_iff, List.any_eq_true, decide_eq_true_eq]
  constructor
  · rintro ⟨y, hy, h⟩
    have h : PyData.eqv (.int y) (.int x) = true := h
    rw [eqv_int, decide_eq_true_eq] at h
    exact h ▸ hy
  · intro h
    exact ⟨x, h, by show PyData.eqv (.int x) (.int x) = true; rw [eqv_int, decide_eq_true rfl]⟩
theorem dep_prNB (prs : List (Nat × Nat)) : dep 60 (.list (prs.map prNB)) = true := by
  simp only [dep]
  rw [List.all_map]
  exact List.all_eq_true.mpr fun p _ => rfl
theorem r__law_in_place : ∀ ds Q0 E0, S__law_in_place ds Q0 E0 → t__law_in_place (dEnds Q0) (ds ++ List.replicate (N__law_in_place.length - 3) .gone) := by
  rintro ds Q0 E0 ⟨l, n, ps, rows, hP, hn, hp, hps, hr, hrl, rfl, q⟩
  have hpl : (List.map pt ps).length = ps.length := List.length_map _
  have hxl : (List.map pt rows).length = rows.length := List.length_map _
  simp only [N__law_in_place, List.length_cons, List.length_nil, List.cons_append, List.nil_append, Nat.reduceAdd, Nat.reduceSub, Nat.zero_add, List.replicate_succ, List.replicate_zero]; unfold t__law_in_place
  o_attr
  o_args
  with_reducible refine s_seqCut (fun st => ∃ (prs : List (Nat × Nat)) (d4 d5 d6 : Vl), prs.length ≤ 24 * rows.length ∧ (∀ p ∈ prs, p.1 < rows.length ∧ p.2 < ps.length) ∧ st = [.ow l, .fr (pts ps), .fr (pts rows), .ow (prs.map prNB), d4, d5, d6, .gone]) (fun K hK => ?_) ?_
  · o_attr
    refine s_forMap rows.zipIdx (fun p => .tuple [.int (p.2 : Nat), pt p.1]) (fun l' st => ∃ (pre : List (List Int × Nat)) (prs : List (Nat × Nat)) (d4 d5 d6 : Vl), rows.zipIdx = pre ++ l' ∧ prs.length ≤ 24 * pre.length ∧ (∀ p ∈ prs, p.1 < rows.length ∧ p.2 < ps.length) ∧ (d6 = .gone ∨ ∃ x, d6 = .fr x) ∧ st = [.ow l, .fr (pts ps), .fr (pts rows), .ow (prs.map prNB), d4, d5, d6, .gone]) (enum_map pt rows 0) rfl ⟨[], [], _, _, _, rfl, by simp, by simp, .inl rfl, rfl⟩ ?_ ?_
    · rintro ⟨r, k⟩ l' st ⟨pre, prs, d4, d5, d6, hpre, hprs, hin, hd, rfl⟩ K2 hK2
      have hm : (r, k) ∈ rows.zipIdx := by rw [hpre]; simp
      have hk : k < rows.length := by have := List.snd_lt_of_mem_zipIdx hm; omega
      have hrm : r ∈ rows := by
        have := List.mem_zipIdx_iff_getElem?.mp hm
        exact List.mem_of_getElem? this
      obtain ⟨h24, hne, hrin⟩ := hrl r hrm
      have hpc : pre.length ≤ 24 := by
        have : rows.zipIdx.length = rows.length := List.length_zipIdx
        rw [hpre, List.length_append] at this
        omega
      have hrl1 : (r.map PyData.int).length = r.length := List.length_map _
      have hpos1 := List.length_pos_iff.mpr hne
      o_norm
      rw [hpl]
      refine s_rng1K (by omega) (by omega) ?_
      refine ⟨rfl, by rcases hd with rfl | ⟨x, rfl⟩ <;> rfl, ?_⟩
      apply s_lcMap (List.range ps.length) (fun (i : Nat) => .int (i : Int)) (fun (i : Nat) => if decide ((i : Int) ∉ r) = true then Option.some (.int (i : Int)) else none) (rngN ps.length); (· (first | (simp only [wipeD, List.set_cons_zero, List.set_cons_succ]; done) | (simp only [wipeD, List.set_cons_zero, List.set_cons_succ]; rfl))); (· (first | (simp only [rst, List.set_cons_zero, List.set_cons_succ, Option.getD_some, List.getElem?_cons_zero, List.getElem?_cons_succ]; done) | (simp only [rst, List.set_cons_zero, List.set_cons_succ, Option.getD_some, List.getElem?_cons_zero, List.getElem?_cons_succ]; rfl)))
      · trivial
      · rw [List.length_range]; exact small (k := 24) hps
      · intro i hi K3 hK3
        o_norm
        refine s_ninT rfl rfl (by rfl) (dep_ints _ _) ?_
        rw [any_int2B]
        o_attr
        · rw [if_neg (by simp [h])] at hK3
          exact hK3
        · rw [if_pos (by simp [h])] at hK3
          exact hK3
      rw [fmap_if]
      o_norm
      obtain ⟨ot, eot⟩ : ∃ ot, (List.range ps.length).filter (fun (i : Nat) => decide ((i : Int) ∉ r)) = ot := ⟨_, rfl⟩
      have hot : ∀ i ∈ ot, i < ps.length := fun i hi => by
        rw [← eot] at hi
        exact List.mem_range.mp (List.mem_filter.mp hi).1
      have hol : ot.length ≤ 24 := by rw [← eot]; exact Nat.le_trans (List.length_filter_le _ _) (by rw [List.length_range]; exact hps)
      rw [eot]
      let cB : Nat → Bool := fun i => decide (r.length = 1) || beats (ps.getD (r.getD (r.length - 2) 0).toNat []) (ps.getD i [])
      apply s_lcMap ot (fun (i : Nat) => .int (i : Int)) (fun (i : Nat) => if cB i = true then Option.some (prNB (k, i)) else none) rfl; (· (first | (simp only [wipeD, List.set_cons_zero, List.set_cons_succ]; done) | (simp only [wipeD, List.set_cons_zero, List.set_cons_succ]; rfl))); (· (first | (simp only [rst, List.set_cons_zero, List.set_cons_succ, Option.getD_some, List.getElem?_cons_zero, List.getElem?_cons_succ]; done) | (simp only [rst, List.set_cons_zero, List.set_cons_succ, Option.getD_some, List.getElem?_cons_zero, List.getElem?_cons_succ]; rfl)))
      · trivial
      · exact small (k := 24) hol
      · intro i hi K3 hK3
        have hi := hot i hi
        by_cases h1 : r.length = 1
        · rw [if_pos (show (decide (r.length = 1) || beats (ps.getD (r.getD (r.length - 2) 0).toNat []) (ps.getD i [])) = true by rw [decide_eq_true h1, Bool.true_or])] at hK3
          o_norm
          · exact hK3
          · exact absurd (show ((r.map PyData.int).length : Int) = 1 by omega) (by assumption)
        · o_norm
          · exact absurd h1 (by omega)
          obtain ⟨b1, b2⟩ := hrin (r.getD (r.length - 2) 0) (by rw [List.getD_eq_getElem?_getD, List.getElem?_eq_getElem (by omega : r.length - 2 < r.length)]; exact List.getElem_mem _)
          refine s_ixT (x := .int (r.getD (r.length - 2) 0)) rfl ?_ ?_
          · unfold atI ixN
            rw [if_neg (by decide), hrl1, if_pos (by omega), show (-2 + (r.length : Int)).toNat = r.length - 2 by omega]
            show (r.map PyData.int)[r.length - 2]? = _
            rw [List.getElem?_map, List.getD_eq_getElem?_getD, List.getElem?_eq_getElem (by omega : r.length - 2 < r.length)]; rfl
          o_attr
          refine s_ixT rfl (ptsAtI b1 (by omega)) ?_
          o_attr
          refine s_ixT rfl (ptsAt hi) ?_
          o_attr
          refine ⟨_, _, hp.at_ b2, hp.at_ hi, rfl, fun ds' => ?_⟩
          o_attr
          refine s_br (fun h => ?_) (fun h => ?_)
          · rw [if_pos (show (decide (r.length = 1) || beats (ps.getD (r.getD (r.length - 2) 0).toNat []) (ps.getD i [])) = true by rw [h, Bool.or_true])] at hK3
            o_attr
            exact hK3
          · rw [if_neg (show ¬ (decide (r.length = 1) || beats (ps.getD (r.getD (r.length - 2) 0).toNat []) (ps.getD i [])) = true by rw [h, decide_eq_false h1]; decide)] at hK3
            o_attr
            exact hK3
      rw [fmap_if]
      obtain ⟨ov, eov⟩ : ∃ ov, ot.filter cB = ov := ⟨_, rfl⟩
      have hov : ∀ i ∈ ov, i < ps.length := fun i hi => by
        rw [← eov] at hi
        exact hot i (List.mem_filter.mp hi).1
      have hvl : ov.length ≤ 24 := by rw [← eov]; exact Nat.le_trans (List.length_filter_le _ _) hol
      rw [eov]
      have e1 : (ov.map fun i => prNB (k, i)) = (ov.map fun i => (k, i)).map prNB := by rw [List.map_map]; rfl
      rw [e1]
      have h5 := Nat.mul_le_mul_left 24 hpc
      have l1 : (prs.map prNB).length = prs.length := List.length_map _
      have l2 : ((ov.map fun i => (k, i)).map prNB).length = ov.length := by rw [List.length_map, List.length_map]
      o_attr
      rw [← List.map_append]
      refine hK2 _ ⟨pre ++ [(r, k)], prs ++ ov.map fun i => (k, i), _, _, _, by rw [hpre, List.append_assoc]; rfl, by rw [List.length_append, List.length_append, List.length_map, List.length_singleton]; omega, fun p hp => ?_, .inr ⟨_, rfl⟩, rfl⟩ rfl
      rcases List.mem_append.mp hp with hp | hp
      · exact hin p hp
      · obtain ⟨i, hi, rfl⟩ := List.mem_map.mp hp
        exact ⟨hk, hov i hi⟩
    · rintro st ⟨pre, prs, d4, d5, d6, hpre, hprs, hin, hd, rfl⟩
      o_attr
      rw [List.append_nil] at hpre
      exact hK _ ⟨prs, _, _, _, by rw [← hpre, List.length_zipIdx] at hprs; exact hprs, hin, rfl⟩
  rintro st ⟨prs, d4, d5, d6, hprs, hin, rfl⟩
  have h5 := Nat.mul_le_mul_left 24 hr
  have l1 : (prs.map prNB).length = prs.length := List.length_map _
  o_attr
  refine s_eq rfl rfl (by exact dep_prNB prs) (by rfl) ?_
  rw [eqv_nil]
  o_attr
  · refine q _ rows [_, _, _, _, _, _, _, _] (hP.mono (by omega)) rfl (by omega) fun r h => Nat.le_trans (hrl r h).1 (by decide)
  · have hne : prs ≠ [] := fun z => by
      rw [z] at h
      exact h rfl
    have hpos := List.length_pos_iff.mpr hne
    refine ⟨_, _, _, hP, by omega, by omega, by omega, rfl, fun l x ds1 hP h0x h1x e1 => ?_⟩; ((with_reducible apply s_up); (· (first | (simp only [upds, List.set_cons_zero, List.set_cons_succ, Option.getD_some, e1]; done) | (simp only [upds, List.set_cons_zero, List.set_cons_succ, Option.getD_some, e1]; rfl)))); o_attr
    obtain ⟨x, rfl⟩ := Int.eq_ofNat_of_zero_le h0x
    have hx2 : x < prs.length := by omega
    obtain ⟨h6, h7⟩ := hin _ (List.getElem_mem hx2)
    refine s_ixL (x := prNB prs[x]) rfl (by apply atI_ok; rw [List.getElem?_map, List.getElem?_eq_getElem hx2]; rfl) ?_
    obtain ⟨pr, epr⟩ : ∃ pr, prs[x] = pr := ⟨_, rfl⟩
    rw [epr] at h6 h7 ⊢
    unfold prNB
    o_norm
    refine s_ixT rfl (ptsAt h6) ?_
    have hrr := (hrl _ (getD_mem h6)).1
    have hr1 : ((rows.getD pr.1 []).map PyData.int).length = (rows.getD pr.1 []).length := List.length_map _
    have c1 : (cut (rows.map pt) none (Option.some (pr.1 : Int))).length ≤ 24 := by rw [cut_map, List.length_map]; exact Nat.le_trans (cutG_lenB _ _ _) hr
    have c2 : (cut (rows.map pt) (Option.some ((pr.1 : Int) + 1)) none).length ≤ 24 := by rw [cut_map, List.length_map]; exact Nat.le_trans (cutG_lenB _ _ _) hr
    obtain ⟨u, eu, hu⟩ := (IL.of (n := 24) hrr).cut none (Option.some (-1))
    have hul : (cut ((rows.getD pr.1 []).map PyData.int) none (Option.some (-1))).length ≤ 24 := by rw [eu, List.length_map]; exact hu
    o_attr
    have e2 : cut (rows.map pt) none (Option.some (pr.1 : Int)) ++ [PyData.tuple (cut ((rows.getD pr.1 []).map PyData.int) none (Option.some (-1)) ++ [PyData.int (pr.2 : Int)])] ++ cut (rows.map pt) (Option.some ((pr.1 : Int) + 1)) none = (cutG rows none (Option.some (pr.1 : Int)) ++ [u ++ [(pr.2 : Int)]] ++ cutG rows (Option.some ((pr.1 : Int) + 1)) none).map pt := by
      rw [List.map_append, List.map_append, eu, cut_map pt rows, cut_map pt rows]
      show _ ++ [PyData.tuple _] ++ _ = _ ++ [PyData.tuple ((u ++ [(pr.2 : Int)]).map PyData.int)] ++ _
      rw [List.map_append]; rfl
    rw [e2]
    have d1 := cutG_lenB rows none (Option.some (pr.1 : Int))
    have d2 := cutG_lenB rows (Option.some ((pr.1 : Int) + 1)) none
    refine q _ _ [_, _, _, _, _, _, _, _] (hP.mono (by omega)) rfl (by simp only [List.length_append, List.length_cons, List.length_nil]; omega) fun r hr => ?_
    simp only [List.mem_append, List.mem_cons, List.not_mem_nil, or_false] at hr
    rcases hr with (hr | rfl) | hr
    · exact Nat.le_trans (hrl _ (cutG_memB hr)).1 (by decide)
    · rw [List.length_append, List.length_singleton]; omega
    · exact Nat.le_trans (hrl _ (cutG_memB hr)).1 (by decide)
/-! _law_beside -/
--I X18
def xr (r : List Int) : PyData := xt (r.map .int)
def S__law_beside : VSp := fun ds Q _ => ∃ (l : List PyData) (n : Nat) (some : List Int) (rows : List (List Int)), Pot n l ∧ n < 2 ^ 36 ∧ some.length ≤ 8 ∧ rows.length ≤ 8 ∧ (∀ r ∈ rows, r.length ≤ 24) ∧ (∀ r ∈ rows, ∃ x ∈ r, x ∈ some) ∧ rows.flatten.Nodup ∧ ds = [.ow l, .fr (pt some), .fr (.tuple (rows.map xr))] ∧ ∀ l' (so : List Int) ds', Pot (n + 6) l' → ds'[0]? = Option.some (.ow l') → so.length ≤ 60 → Q (.fr (pt so)) ds'
theorem len__law_beside : ∀ ds Q E, S__law_beside ds Q E → ds.length = 3 := by rintro _ _ _ ⟨_, _, _, _, _, _, _, _, _, _, _, rfl, _⟩; rfl
abbrev N__law_beside : List Str := ["pool", "some", "rows", "mids", "pairs", "k", "row", "at", "one", "gone", "mid", "number"]
def t__law_beside : DTS := (cSeq (cAsg (cFrz (cCall [] S__law_mids (cCons (cVar 1) (cCons (cVarP 2) cNil)))) (gNm 3)) (cSeq (cAsg (cLst cNil) (gNm 4)) (cSeq (cFor [] (cEnum (cCons (cVar 2) cNil)) (gTu 2 (gsCons (gNm 5) (gsCons (gNm 6) gsNil))) (cSeq (cAsg (cFrz (cIxE (cVar 6) (c2 gIx (cVar 3) (cVar 5)))) (gNm 7)) (cDrop (cExt (cVar 4) (cCons (cLc [] [8] (cSeqI (c2 gAdd (cSl (cVarP 6) (cPt (cFn (g2I fun i j => max i j) (cCons (cK (.fr (.int 0))) (cCons (c2 kSub (cVar 7) (cK (.fr (.int 1)))) cNil)))) (cPt (cVar 7))) (cSl (cVarP 6) (cPt (c2 gAdd (cVar 7) (cK (.fr (.int 1))))) (cPt (c2 gAdd (cVar 7) (cK (.fr (.int 2)))))))) (gNm 8) cYes (cTup (cCons (cVar 5) (cCons (cVar 8) cNil)))) cNil))))) (cSeq (cIfS (cOr (cTst (c2 (gEq false) (cVar 4) (cLst cNil))) (cTst (c2 (kLt) (cFn (g1 gLen) (cCons (cVarP 2) cNil)) (cK (.fr (.int 2)))))) (cRet (cVar 1)) cNext) (cSeq (cAsg (c2 gIx (cVar 4) (cCall [0] S__law_next (cCons (cVar 0) (cCons (cFn (g1 gLen) (cCons (cVar 4) cNil)) cNil)))) (gTu 2 (gsCons (gNm 5) (gsCons (gNm 8) gsNil)))) (cSeq (cAsg (c2 gIx (cLc [] [10] (cSeqI (cVar 3)) (gNm 10) (cTst (c2 (gEq true) (cVar 10) (c2 gIx (cVar 3) (cVar 5)))) (cVar 10)) (cCall [0] S__law_next (cCons (cVar 0) (cCons (c2 kSub (cFn (g1 gLen) (cCons (cVar 3) cNil)) (cK (.fr (.int 1)))) cNil)))) (gNm 9)) (cRet (cFn (g1 gTpl) (cCons (cFn (g1 gSrt) (cCons (c2 gAdd (cLc [] [11] (cSeqI (cVar 1)) (gNm 11) (cTst (c2 (gEq true) (cVar 11) (cVar 9))) (cVar 11)) (cLst (cCons (cVar 8) cNil))) cNil)) cNil)))))))))
theorem mids_nodup {some : List Int} : ∀ {rows : List (List Int)}, (∀ r ∈ rows, ∃ x ∈ r, x ∈ some) → rows.flatten.Nodup → (rows.map (midOf some)).Nodup
  | [], _, _ => List.nodup_nil
  | r :: rows, h, hn => by
    rw [List.flatten_cons, List.nodup_append] at hn
    rw [List.map_cons, List.nodup_cons]
    refine ⟨fun hm => ?_, mids_nodup (fun x hx => h x (List.mem_cons_of_mem _ hx)) hn.2.1⟩
    obtain ⟨r2, h2, e⟩ := List.mem_map.mp hm
    have h3 := (midOf_mem (h r2 (List.mem_cons_of_mem _ h2))).1
    exact hn.2.2 _ (midOf_mem (h r List.mem_cons_self)).1 _ (List.mem_flatten.mpr ⟨r2, h2, h3⟩) e.symm
theorem but_one {l : List Int} {x : Int} (h : l.Nodup) (hx : x ∈ l) : (l.filter fun y => decide (y ≠ x)).length = l.length - 1 := by
  have := List.length_erase_of_mem hx
  rw [h.erase_eq_filter] at this
  rw [← this]
  congr 1
  apply List.filter_congr
  intro y _
  by_cases e : y = x
  · simp [e]
  · simp [e]
def prZ (p : Nat × Int) : PyData := .tuple [.int (p.1 : Int), .int p.2]
theorem dep_prZ (prs : List (Nat × Int)) : dep 60 (.list (prs.map prZ)) = true := by
  simp only [dep]
  rw [List.all_map]
  exact List.all_eq_true.mpr fun p _ => rfl
theorem cutG_lenD {α : Type} (l : List α) (lo hi : Option Int) : (cutG l lo hi).length ≤ l.length := by unfold cutG; rw [List.length_take, List.length_drop]; omega
theorem r__law_beside : ∀ ds Q0 E0, S__law_beside ds Q0 E0 → t__law_beside (dEnds Q0) (ds ++ List.replicate (N__law_beside.length - 3) .gone) := by
  rintro ds Q0 E0 ⟨l, n, some, rows, hP, hn, hs, hr, hrl, hm, hnd, rfl, q⟩
  have hxl : (List.map pt rows).length = rows.length := List.length_map _
  have hsl : (some.map PyData.int).length = some.length := List.length_map _
  have hmn := mids_nodup hm hnd
  have hml : ((rows.map (midOf some)).map PyData.int).length = rows.length := by rw [List.length_map, List.length_map]
  have hml2 : (rows.map (midOf some)).length = rows.length := List.length_map _
  simp only [N__law_beside, List.length_cons, List.length_nil, List.cons_append, List.nil_append, Nat.reduceAdd, Nat.reduceSub, Nat.zero_add, List.replicate_succ, List.replicate_zero]; unfold t__law_beside
  o_attr
  refine ⟨some, rows, by omega, by omega, fun r h => Nat.le_trans (hrl r h) (by decide), hm, rfl, fun ds' => ?_⟩
  o_attr
  o_args
  o_attr
  o_args
  with_reducible refine s_seqCut (fun st => ∃ (prs : List (Nat × Int)) (d5 d6 d7 : Vl), prs.length ≤ 48 * rows.length ∧ (∀ p ∈ prs, p.1 < rows.length) ∧ st = [.ow l, .fr (pt some), .fr (.tuple (rows.map xr)), .fr (.list ((rows.map (midOf some)).map .int)), .ow (prs.map prZ), d5, d6, d7, .gone, .gone, .gone, .gone]) (fun K hK => ?_) ?_
  · o_attr
    refine s_forMap rows.zipIdx (fun p => .tuple [.int (p.2 : Nat), xr p.1]) (fun l' st => ∃ (pre : List (List Int × Nat)) (prs : List (Nat × Int)) (d5 d6 d7 : Vl), rows.zipIdx = pre ++ l' ∧ prs.length ≤ 48 * pre.length ∧ (∀ p ∈ prs, p.1 < rows.length) ∧ st = [.ow l, .fr (pt some), .fr (.tuple (rows.map xr)), .fr (.list ((rows.map (midOf some)).map .int)), .ow (prs.map prZ), d5, d6, d7, .gone, .gone, .gone, .gone]) (enum_map xr rows 0) rfl ⟨[], [], _, _, _, rfl, by simp, by simp, rfl⟩ ?_ ?_
    · rintro ⟨r, k⟩ l' st ⟨pre, prs, d5, d6, d7, hpre, hprs, hin, rfl⟩ K2 hK2
      have hzm : (r, k) ∈ rows.zipIdx := by rw [hpre]; simp
      have hk : k < rows.length := by have := List.snd_lt_of_mem_zipIdx hzm; omega
      have hrk := List.mem_zipIdx_iff_getElem?.mp hzm
      have hrm : r ∈ rows := List.mem_of_getElem? hrk
      have hpc : pre.length ≤ 8 := by
        have : rows.zipIdx.length = rows.length := List.length_zipIdx
        rw [hpre, List.length_append] at this
        omega
      o_norm
      refine ⟨⟨_, rfl⟩, ?_⟩
      o_attr
      refine s_ixL (x := .int (midOf some r)) rfl (by apply atI_ok; rw [List.getElem?_map, List.getElem?_map, hrk]; rfl) ?_
      obtain ⟨f1, f2⟩ := first_of (midOf_mem (hm r hrm)).1
      refine s_ixEi r (midOf some r) _ rfl rfl f1 f2 ?_
      o_norm
      obtain ⟨A, eA⟩ : ∃ A, cutG r (Option.some (max 0 ((List.idxOf (midOf some r) r : Nat) - 1 : Int))) (Option.some ((List.idxOf (midOf some r) r : Nat) : Int)) = A := ⟨_, rfl⟩
      obtain ⟨C, eC⟩ : ∃ C, cutG r (Option.some (((List.idxOf (midOf some r) r : Nat) : Int) + 1)) (Option.some (((List.idxOf (midOf some r) r : Nat) : Int) + 2)) = C := ⟨_, rfl⟩
      have hA : A.length ≤ 24 := by rw [← eA]; exact Nat.le_trans (cutG_lenD _ _ _) (hrl r hrm)
      have hC : C.length ≤ 24 := by rw [← eC]; exact Nat.le_trans (cutG_lenD _ _ _) (hrl r hrm)
      have lA : (A.map PyData.int).length = A.length := List.length_map _
      have lC : (C.map PyData.int).length = C.length := List.length_map _
      rw [cut_map, cut_map, eA, eC]
      o_norm
      rw [← List.map_append]
      apply s_lcMap (A ++ C) .int (fun o => Option.some (prZ (k, o))) rfl; (· (first | (simp only [wipeD, List.set_cons_zero, List.set_cons_succ]; done) | (simp only [wipeD, List.set_cons_zero, List.set_cons_succ]; rfl))); (· (first | (simp only [rst, List.set_cons_zero, List.set_cons_succ, Option.getD_some, List.getElem?_cons_zero, List.getElem?_cons_succ]; done) | (simp only [rst, List.set_cons_zero, List.set_cons_succ, Option.getD_some, List.getElem?_cons_zero, List.getElem?_cons_succ]; rfl)))
      · trivial
      · rw [List.length_append]; exact small (k := 48) (by omega)
      · intro o _ K3 hK3
        o_norm
        exact hK3
      rw [fmap_some]
      have e1 : ((A ++ C).map fun o => prZ (k, o)) = ((A ++ C).map fun o => (k, o)).map prZ := by rw [List.map_map]; rfl
      rw [e1]
      have h5 := Nat.mul_le_mul_left 48 hpc
      have l1 : (prs.map prZ).length = prs.length := List.length_map _
      have l2 : (((A ++ C).map fun o => (k, o)).map prZ).length = A.length + C.length := by rw [List.length_map, List.length_map, List.length_append]
      o_attr
      rw [← List.map_append]
      refine hK2 _ ⟨pre ++ [(r, k)], prs ++ (A ++ C).map fun o => (k, o), _, _, _, by rw [hpre, List.append_assoc]; rfl, by rw [List.length_append, List.length_append, List.length_map, List.length_append, List.length_singleton]; omega, fun p hp => ?_, rfl⟩ rfl
      rcases List.mem_append.mp hp with hp | hp
      · exact hin p hp
      · obtain ⟨i, hi, rfl⟩ := List.mem_map.mp hp
        exact hk
    · rintro st ⟨pre, prs, d5, d6, d7, hpre, hprs, hin, rfl⟩
      o_attr
      rw [List.append_nil] at hpre
      exact hK _ ⟨prs, _, _, _, by rw [← hpre, List.length_zipIdx] at hprs; exact hprs, hin, rfl⟩
  rintro st ⟨prs, d5, d6, d7, hprs, hin, rfl⟩
  have l1 : (prs.map prZ).length = prs.length := List.length_map _
  o_attr
  refine s_eq rfl rfl (by exact dep_prZ prs) (by rfl) ?_
  rw [eqv_nil]
  o_attr
  · refine q _ some [_, _, _, _, _, _, _, _, _, _, _, _] (hP.mono (by omega)) rfl (by omega)
  · refine q _ some [_, _, _, _, _, _, _, _, _, _, _, _] (hP.mono (by omega)) rfl (by omega)
  · have hne : prs ≠ [] := fun z => by
      subst z
      exact absurd (rfl : List.map prZ [] = []) (by assumption)
    have hpos := List.length_pos_iff.mpr hne
    have h2r : 2 ≤ rows.length := by
      have e1 : (rows.map pt).length = rows.length := List.length_map _
      omega
    refine ⟨_, _, _, hP, by omega, by omega, by omega, rfl, fun l x ds1 hP h0x h1x e1 => ?_⟩; ((with_reducible apply s_up); (· (first | (simp only [upds, List.set_cons_zero, List.set_cons_succ, Option.getD_some, e1]; done) | (simp only [upds, List.set_cons_zero, List.set_cons_succ, Option.getD_some, e1]; rfl)))); o_attr
    obtain ⟨x, rfl⟩ := Int.eq_ofNat_of_zero_le h0x
    have hx2 : x < prs.length := by omega
    have h6 := hin _ (List.getElem_mem hx2)
    refine s_ixL (x := prZ prs[x]) rfl (by apply atI_ok; rw [List.getElem?_map, List.getElem?_eq_getElem hx2]; rfl) ?_
    obtain ⟨pr, epr⟩ : ∃ pr, prs[x] = pr := ⟨_, rfl⟩
    rw [epr] at h6 ⊢
    unfold prZ
    o_norm
    obtain ⟨mk, emk⟩ : ∃ mk, (rows.map (midOf some)).getD pr.1 0 = mk := ⟨_, rfl⟩
    have hmk : mk ∈ rows.map (midOf some) := by
      rw [← emk, List.getD_eq_getElem?_getD, List.getElem?_eq_getElem (by omega : pr.1 < (rows.map (midOf some)).length)]
      exact List.getElem_mem _
    apply s_lcMap (rows.map (midOf some)) .int (fun y => if decide (y ≠ mk) = true then Option.some (.int y) else none) rfl; (· (first | (simp only [wipeD, List.set_cons_zero, List.set_cons_succ]; done) | (simp only [wipeD, List.set_cons_zero, List.set_cons_succ]; rfl))); (· (first | (simp only [rst, List.set_cons_zero, List.set_cons_succ, Option.getD_some, List.getElem?_cons_zero, List.getElem?_cons_succ]; done) | (simp only [rst, List.set_cons_zero, List.set_cons_succ, Option.getD_some, List.getElem?_cons_zero, List.getElem?_cons_succ]; rfl)))
    · trivial
    · rw [hml2]; exact small (k := 8) hr
    · intro y hy K3 hK3
      o_norm
      refine s_ixL rfl (intsAt (i := pr.1) (by omega)) ?_
      rw [emk]
      o_attr
      · rw [if_neg (by simp [h])] at hK3
        exact hK3
      · rw [if_pos (by simp [h])] at hK3
        exact hK3
    rw [fmap_if]
    have hbo := but_one hmn hmk
    o_attr
    rw [hml]
    refine ⟨_, _, _, hP, by omega, by omega, by omega, rfl, fun l y ds1 hP h0y h1y e1 => ?_⟩; ((with_reducible apply s_up); (· (first | (simp only [upds, List.set_cons_zero, List.set_cons_succ, Option.getD_some, e1]; done) | (simp only [upds, List.set_cons_zero, List.set_cons_succ, Option.getD_some, e1]; rfl)))); o_attr
    obtain ⟨y, rfl⟩ := Int.eq_ofNat_of_zero_le h0y
    refine s_ixL rfl (intsAt (i := y) (by omega)) ?_
    o_norm
    apply s_lcMap some .int (fun z => if decide (z ≠ ((rows.map (midOf some)).filter fun y => decide (y ≠ mk)).getD y 0) = true then Option.some (.int z) else none) rfl; (· (first | (simp only [wipeD, List.set_cons_zero, List.set_cons_succ]; done) | (simp only [wipeD, List.set_cons_zero, List.set_cons_succ]; rfl))); (· (first | (simp only [rst, List.set_cons_zero, List.set_cons_succ, Option.getD_some, List.getElem?_cons_zero, List.getElem?_cons_succ]; done) | (simp only [rst, List.set_cons_zero, List.set_cons_succ, Option.getD_some, List.getElem?_cons_zero, List.getElem?_cons_succ]; rfl)))
    · trivial
    · exact small (k := 8) hs
    · intro z hz K3 hK3
      o_norm
      · rw [if_neg (by rw [decide_eq_false (fun w => w h)]; decide)] at hK3
        exact hK3
      · rw [if_pos (decide_eq_true h)] at hK3
        exact hK3
    rw [fmap_if]
    obtain ⟨S, eS⟩ : ∃ S, (some.filter fun z => decide (z ≠ ((rows.map (midOf some)).filter fun y => decide (y ≠ mk)).getD y 0)) = S := ⟨_, rfl⟩
    have hS : S.length ≤ 8 := by rw [← eS]; exact Nat.le_trans (List.length_filter_le _ _) hs
    rw [eS]
    have lS : (S.map PyData.int).length = S.length := List.length_map _
    o_attr
    rw [show S.map PyData.int ++ [PyData.int pr.2] = (S ++ [pr.2]).map .int by rw [List.map_append]; rfl]
    refine s_srtI (S ++ [pr.2]) rfl ?_
    o_attr
    refine q _ ((S ++ [pr.2]).mergeSort fun a b => decide (a ≤ b)) [_, _, _, _, _, _, _, _, _, _, _, _] (hP.mono (by omega)) rfl (by rw [List.length_mergeSort, List.length_append, List.length_singleton]; omega)
/-! _law_crossed -/
--I X18
def xrC (r : List Int) : PyData := xt (r.map .int)
def S__law_crossed : VSp := fun ds Q _ => ∃ (l : List PyData) (n : Nat) (ps : List (List Int)) (some : List Int) (rows : List (List Int)), Pot n l ∧ n < 2 ^ 36 ∧ Pts ps ∧ (∀ x ∈ some, 0 ≤ x ∧ x.toNat < ps.length) ∧ some.length ≤ 8 ∧ rows.length ≤ 8 ∧ (∀ r ∈ rows, r.length ≤ 24) ∧ (∀ r ∈ rows, ∃ x ∈ r, x ∈ some) ∧ ds = [.ow l, .fr (pts ps), .fr (pt some), .fr (.tuple (rows.map xrC))] ∧ ∀ l' (so : List Int) (rs : List (List Int)) ds', Pot (n + 6) l' → ds'[0]? = Option.some (.ow l') → so.length ≤ 60 → rs.length ≤ 100 → (∀ r ∈ rs, r.length ≤ 200) → Q (.fr (.tuple [pt so, pts rs])) ds'
theorem len__law_crossed : ∀ ds Q E, S__law_crossed ds Q E → ds.length = 4 := by rintro _ _ _ ⟨_, _, _, _, _, _, _, _, _, _, _, _, _, rfl, _⟩; rfl
abbrev N__law_crossed : List Str := ["pool", "points", "some", "rows", "mids", "pairs", "i", "j", "a", "b", "first", "rest", "others", "k", "number"]
def t__law_crossed : DTS := (cSeq (cAsg (cFrz (cCall [] S__law_mids (cCons (cVar 2) (cCons (cVarP 3) cNil)))) (gNm 4)) (cSeq (cAsg (cLst cNil) (gNm 5)) (cSeq (cFor [] (cRng1 (cCons (cFn (g1 gLen) (cCons (cVarP 3) cNil)) cNil)) (gNm 6) (cDrop (cExt (cVar 5) (cCons (cLc [] [7] (cRng1 (cCons (cFn (g1 gLen) (cCons (cVarP 3) cNil)) cNil)) (gNm 7) (cAnd (cTst (c2 (gEq true) (cVar 6) (cVar 7))) (cTst (c2 (gEq false) (c2 gIx (cVar 1) (c2 gIx (cVar 4) (cVar 6))) (c2 gIx (cVar 1) (c2 gIx (cVar 4) (cVar 7)))))) (cTup (cCons (cVar 6) (cCons (cVar 7) cNil)))) cNil)))) (cSeq (cIfS (cTst (c2 (gEq false) (cVar 5) (cLst cNil))) (cRet (cTup (cCons (cVar 2) (cCons (cVarP 3) cNil)))) cNext) (cSeq (cAsg (c2 gIx (cVar 5) (cCall [0] S__law_next (cCons (cVar 0) (cCons (cFn (g1 gLen) (cCons (cVar 5) cNil)) cNil)))) (gTu 2 (gsCons (gNm 6) (gsCons (gNm 7) gsNil)))) (cSeq (cPar 8 9 (cCons (cFrz (cIxE (c2 gIx (cVar 3) (cVar 6)) (c2 gIx (cVar 4) (cVar 6)))) (cCons (cFrz (cIxE (c2 gIx (cVar 3) (cVar 7)) (c2 gIx (cVar 4) (cVar 7)))) cNil))) (cSeq (cAsg (cFrz (c2 gAdd (cSl (c2 gIx (cVarP 3) (cVar 6)) cNoP (cPt (c2 gAdd (cVar 8) (cK (.fr (.int 1)))))) (cSl (c2 gIx (cVarP 3) (cVar 7)) (cPt (cVar 9)) cNoP))) (gNm 10)) (cSeq (cAsg (cFrz (c2 gAdd (cSl (c2 gIx (cVarP 3) (cVar 7)) cNoP (cPt (cVar 9))) (cSl (c2 gIx (cVarP 3) (cVar 6)) (cPt (c2 gAdd (cVar 8) (cK (.fr (.int 1))))) cNoP))) (gNm 11)) (cSeq (cAsg (cFn (g1 gTpl) (cCons (cLc [] [13] (cRng1 (cCons (cFn (g1 gLen) (cCons (cVarP 3) cNil)) cNil)) (gNm 13) (cTst (c2 (gIn true) (cVar 13) (cTup (cCons (cVar 6) (cCons (cVar 7) cNil))))) (c2 gIx (cVarP 3) (cVar 13))) cNil)) (gNm 12)) (cSeq (cIfS (cTst (c2 (gEq false) (cVar 11) (cTup cNil))) (cRet (cTup (cCons (cFn (g1 gTpl) (cCons (cLc [] [14] (cSeqI (cVar 2)) (gNm 14) (cTst (c2 (gEq true) (cVar 14) (c2 gIx (cVar 4) (cVar 7)))) (cVar 14)) cNil)) (cCons (c2 gAdd (cVar 12) (cTup (cCons (cVar 10) cNil))) cNil)))) cNext) (cRet (cTup (cCons (cVar 2) (cCons (c2 gAdd (cVar 12) (cTup (cCons (cVar 10) (cCons (cVar 11) cNil)))) cNil))))))))))))))
def prM (p : Nat × Nat) : PyData := .tuple [.int (p.1 : Int), .int (p.2 : Int)]
theorem dep_prM (prs : List (Nat × Nat)) : dep 60 (.list (prs.map prM)) = true := by
  simp only [dep]
  rw [List.all_map]
  exact List.all_eq_true.mpr fun p _ => rfl
theorem cutG_lenE {α : Type} (l : List α) (lo hi : Option Int) : (cutG l lo hi).length ≤ l.length := by unfold cutG; rw [List.length_take, List.length_drop]; omega
theorem r__law_crossed : ∀ ds Q0 E0, S__law_crossed ds Q0 E0 → t__law_crossed (dEnds Q0) (ds ++ List.replicate (N__law_crossed.length - 4) .gone) := by
  rintro ds Q0 E0 ⟨l, n, ps, some, rows, hP, hn, hp, hin, hs, hr, hrl, hm, rfl, q⟩
  have hxl : (List.map pt rows).length = rows.length := List.length_map _
  have hsl : (some.map PyData.int).length = some.length := List.length_map _
  have hml : ((rows.map (midOf some)).map PyData.int).length = rows.length := by rw [List.length_map, List.length_map]
  have hml2 : (rows.map (midOf some)).length = rows.length := List.length_map _
  have hmi : ∀ i, i < rows.length → 0 ≤ (rows.map (midOf some)).getD i 0 ∧ ((rows.map (midOf some)).getD i 0).toNat < ps.length ∧ (rows.map (midOf some)).getD i 0 ∈ rows.getD i [] := fun i hi => by
    rw [List.getD_eq_getElem?_getD, List.getD_eq_getElem?_getD, List.getElem?_map, List.getElem?_eq_getElem hi]
    have h1 := midOf_mem (hm _ (List.getElem_mem hi))
    have h2 := hin _ h1.2
    exact ⟨h2.1, h2.2, h1.1⟩
  simp only [N__law_crossed, List.length_cons, List.length_nil, List.cons_append, List.nil_append, Nat.reduceAdd, Nat.reduceSub, Nat.zero_add, List.replicate_succ, List.replicate_zero]; unfold t__law_crossed
  o_attr
  refine ⟨some, rows, by omega, by omega, fun r h => Nat.le_trans (hrl r h) (by decide), hm, rfl, fun ds' => ?_⟩
  o_attr
  o_args
  o_attr
  o_args
  with_reducible refine s_seqCut (fun st => ∃ (prs : List (Nat × Nat)) (d6 : Vl), prs.length ≤ 8 * rows.length ∧ (∀ p ∈ prs, p.1 < rows.length ∧ p.2 < rows.length) ∧ st = [.ow l, .fr (pts ps), .fr (pt some), .fr (.tuple (rows.map xrC)), .fr (.list ((rows.map (midOf some)).map .int)), .ow (prs.map prM), d6, .gone, .gone, .gone, .gone, .gone, .gone, .gone, .gone]) (fun K hK => ?_) ?_
  · o_attr
    rw [hxl]
    refine s_rng1K (by omega) (by omega) ?_
    o_attr
    refine s_forMap (List.range rows.length) (fun (i : Nat) => .int (i : Int)) (fun l' st => ∃ (pre : List Nat) (prs : List (Nat × Nat)) (d6 : Vl), List.range rows.length = pre ++ l' ∧ prs.length ≤ 8 * pre.length ∧ (∀ p ∈ prs, p.1 < rows.length ∧ p.2 < rows.length) ∧ st = [.ow l, .fr (pts ps), .fr (pt some), .fr (.tuple (rows.map xrC)), .fr (.list ((rows.map (midOf some)).map .int)), .ow (prs.map prM), d6, .gone, .gone, .gone, .gone, .gone, .gone, .gone, .gone]) (rngN rows.length) trivial ⟨[], [], _, rfl, by simp, by simp, rfl⟩ ?_ ?_
    · rintro i l' st ⟨pre, prs, d6, hpre, hprs, hin2, rfl⟩ K2 hK2
      have hi : i < rows.length := List.mem_range.mp (by rw [hpre]; simp)
      obtain ⟨a1, a2, _⟩ := hmi i hi
      have hpc : pre.length ≤ 8 := by
        have : (List.range rows.length).length = rows.length := List.length_range
        rw [hpre, List.length_append] at this
        omega
      o_norm
      rw [hxl]
      refine s_rng1K (by omega) (by omega) ?_
      o_norm
      apply s_lcMap (List.range rows.length) (fun (j : Nat) => .int (j : Int)) (fun (j : Nat) => if (decide (i ≠ j) && decide (ps.getD ((rows.map (midOf some)).getD i 0).toNat [] = ps.getD ((rows.map (midOf some)).getD j 0).toNat [])) = true then Option.some (prM (i, j)) else none) (rngN rows.length); (· (first | (simp only [wipeD, List.set_cons_zero, List.set_cons_succ]; done) | (simp only [wipeD, List.set_cons_zero, List.set_cons_succ]; rfl))); (· (first | (simp only [rst, List.set_cons_zero, List.set_cons_succ, Option.getD_some, List.getElem?_cons_zero, List.getElem?_cons_succ]; done) | (simp only [rst, List.set_cons_zero, List.set_cons_succ, Option.getD_some, List.getElem?_cons_zero, List.getElem?_cons_succ]; rfl)))
      · trivial
      · rw [List.length_range]; exact small (k := 8) hr
      · intro j hj K3 hK3
        have hj := List.mem_range.mp hj
        obtain ⟨b1, b2, _⟩ := hmi j hj
        o_norm
        · rw [if_neg (by rw [decide_eq_false (fun z : i ≠ j => z (by omega))]; simp)] at hK3
          exact hK3
        · have hij : i ≠ j := fun z => absurd (show (i : Int) = j by omega) (by assumption)
          refine s_ixL rfl (intsAt (i := i) (by omega)) ?_
          o_attr
          refine s_ixT rfl (ptsAtI a1 (by omega)) ?_
          o_attr
          refine s_ixL rfl (intsAt (i := j) (by omega)) ?_
          o_attr
          refine s_ixT rfl (ptsAtI b1 (by omega)) ?_
          o_attr
          · rw [if_pos (by rw [decide_eq_true hij, decide_eq_true (by assumption)]; rfl)] at hK3
            exact hK3
          · rw [if_neg (by rw [decide_eq_true hij, decide_eq_false (by assumption)]; decide)] at hK3
            exact hK3
      rw [fmap_if]
      obtain ⟨O, eO⟩ : ∃ O, (List.range rows.length).filter (fun (j : Nat) => decide (i ≠ j) && decide (ps.getD ((rows.map (midOf some)).getD i 0).toNat [] = ps.getD ((rows.map (midOf some)).getD j 0).toNat [])) = O := ⟨_, rfl⟩
      have hO : ∀ j ∈ O, j < rows.length := fun j hj => by
        rw [← eO] at hj
        exact List.mem_range.mp (List.mem_filter.mp hj).1
      have hOl : O.length ≤ 8 := by rw [← eO]; exact Nat.le_trans (List.length_filter_le _ _) (by rw [List.length_range]; exact hr)
      rw [eO]
      have e1 : (O.map fun j => prM (i, j)) = (O.map fun j => (i, j)).map prM := by rw [List.map_map]; rfl
      rw [e1]
      have h5 := Nat.mul_le_mul_left 8 hpc
      have l1 : (prs.map prM).length = prs.length := List.length_map _
      have l2 : ((O.map fun j => (i, j)).map prM).length = O.length := by rw [List.length_map, List.length_map]
      o_attr
      rw [← List.map_append]
      refine hK2 _ ⟨pre ++ [i], prs ++ O.map fun j => (i, j), _, by rw [hpre, List.append_assoc]; rfl, by rw [List.length_append, List.length_append, List.length_map, List.length_singleton]; omega, fun p hp => ?_, rfl⟩ trivial
      rcases List.mem_append.mp hp with hp | hp
      · exact hin2 p hp
      · obtain ⟨j, hj, rfl⟩ := List.mem_map.mp hp
        exact ⟨hi, hO j hj⟩
    · rintro st ⟨pre, prs, d6, hpre, hprs, hin2, rfl⟩
      o_attr
      rw [List.append_nil] at hpre
      exact hK _ ⟨prs, _, by rw [← hpre, List.length_range] at hprs; exact hprs, hin2, rfl⟩
  rintro st ⟨prs, d6, hprs, hin2, rfl⟩
  have l1 : (prs.map prM).length = prs.length := List.length_map _
  o_attr
  refine s_eq rfl rfl (by exact dep_prM prs) (by rfl) ?_
  rw [eqv_nil]
  o_attr
  · refine q _ some rows [_, _, _, _, _, _, _, _, _, _, _, _, _, _, _] (hP.mono (by omega)) rfl (by omega) (by omega) fun r h => Nat.le_trans (hrl r h) (by decide)
  · have hne : prs ≠ [] := fun z => by
      subst z
      exact absurd (rfl : List.map prM [] = []) (by assumption)
    have hpos := List.length_pos_iff.mpr hne
    refine ⟨_, _, _, hP, by omega, by omega, by omega, rfl, fun l x ds1 hP h0x h1x e1 => ?_⟩; ((with_reducible apply s_up); (· (first | (simp only [upds, List.set_cons_zero, List.set_cons_succ, Option.getD_some, e1]; done) | (simp only [upds, List.set_cons_zero, List.set_cons_succ, Option.getD_some, e1]; rfl)))); o_attr
    obtain ⟨x, rfl⟩ := Int.eq_ofNat_of_zero_le h0x
    have hx2 : x < prs.length := by omega
    obtain ⟨h6, h7⟩ := hin2 _ (List.getElem_mem hx2)
    refine s_ixL (x := prM prs[x]) rfl (by apply atI_ok; rw [List.getElem?_map, List.getElem?_eq_getElem hx2]; rfl) ?_
    obtain ⟨pr, epr⟩ : ∃ pr, prs[x] = pr := ⟨_, rfl⟩
    rw [epr] at h6 h7 ⊢
    obtain ⟨i, j⟩ := pr
    have h6 : i < rows.length := h6
    have h7 : j < rows.length := h7
    unfold prM
    o_norm
    have xrAt : ∀ k, k < rows.length → atI (rows.map xrC) (k : Int) = Option.some (xrC (rows.getD k [])) := fun k hk => by
      apply atI_ok
      rw [List.getElem?_map, List.getD_eq_getElem?_getD, List.getElem?_eq_getElem hk]; rfl
    refine s_ixT rfl (xrAt i h6) ?_
    refine ⟨⟨_, rfl⟩, ?_⟩
    o_attr
    refine s_ixL rfl (intsAt (i := i) (by omega)) ?_
    obtain ⟨f1, f2⟩ := first_of (hmi i h6).2.2
    refine s_ixEi (rows.getD i []) _ _ rfl rfl f1 f2 ?_
    o_attr
    refine s_ixT rfl (xrAt j h7) ?_
    refine ⟨⟨_, rfl⟩, ?_⟩
    o_attr
    refine s_ixL rfl (intsAt (i := j) (by omega)) ?_
    obtain ⟨g1, g2⟩ := first_of (hmi j h7).2.2
    refine s_ixEi (rows.getD j []) _ _ rfl rfl g1 g2 ?_
    o_attr
    have hri := hrl _ (getD_mem h6)
    have hrj := hrl _ (getD_mem h7)
    have ji : IL 24 ((rows.getD i []).map PyData.int) := IL.of hri
    have jj : IL 24 ((rows.getD j []).map PyData.int) := IL.of hrj
    obtain ⟨a, ea⟩ : ∃ a : Nat, List.idxOf ((rows.map (midOf some)).getD i 0) (rows.getD i []) = a := ⟨_, rfl⟩
    obtain ⟨b, eb⟩ : ∃ b : Nat, List.idxOf ((rows.map (midOf some)).getD j 0) (rows.getD j []) = b := ⟨_, rfl⟩
    rw [ea, eb]
    obtain ⟨u1, eu1, hu1⟩ := ji.cut none (Option.some ((a : Int) + 1))
    obtain ⟨u2, eu2, hu2⟩ := jj.cut (Option.some (b : Int)) none
    obtain ⟨u3, eu3, hu3⟩ := jj.cut none (Option.some (b : Int))
    obtain ⟨u4, eu4, hu4⟩ := ji.cut (Option.some ((a : Int) + 1)) none
    have l1 : (u1.map PyData.int).length = u1.length := List.length_map _
    have l2 : (u2.map PyData.int).length = u2.length := List.length_map _
    have l3 : (u3.map PyData.int).length = u3.length := List.length_map _
    have l4 : (u4.map PyData.int).length = u4.length := List.length_map _
    refine s_ixT rfl (ptsAt h6) ?_
    o_attr
    rw [eu1]
    refine s_ixT rfl (ptsAt h7) ?_
    o_attr
    rw [eu2]
    o_attr
    o_args
    o_attr
    refine s_ixT rfl (ptsAt h7) ?_
    o_attr
    rw [eu3]
    refine s_ixT rfl (ptsAt h6) ?_
    o_attr
    rw [eu4]
    o_attr
    o_args
    o_attr
    rw [hxl]
    refine s_rng1K (by omega) (by omega) ?_
    o_attr
    apply s_lcMap (List.range rows.length) (fun (k : Nat) => .int (k : Int)) (fun (k : Nat) => if decide (k ≠ i ∧ k ≠ j) = true then Option.some (pt (rows.getD k [])) else none) (rngN rows.length); (· (first | (simp only [wipeD, List.set_cons_zero, List.set_cons_succ]; done) | (simp only [wipeD, List.set_cons_zero, List.set_cons_succ]; rfl))); (· (first | (simp only [rst, List.set_cons_zero, List.set_cons_succ, Option.getD_some, List.getElem?_cons_zero, List.getElem?_cons_succ]; done) | (simp only [rst, List.set_cons_zero, List.set_cons_succ, Option.getD_some, List.getElem?_cons_zero, List.getElem?_cons_succ]; rfl)))
    · trivial
    · rw [List.length_range]; exact small (k := 8) hr
    · intro k hk K3 hK3
      have hk := List.mem_range.mp hk
      o_norm
      refine s_ninT rfl rfl (by rfl) (by rfl) ?_
      simp only [List.any_cons, List.any_nil, Bool.or_false, eqv_int]
      by_cases h1 : k ≠ i ∧ k ≠ j
      · rw [if_pos (decide_eq_true h1)] at hK3
        rw [decide_eq_false (by omega), decide_eq_false (by omega)]
        refine s_brEq (show (!(false || false)) = true from rfl) ?_
        o_attr
        refine s_ixT rfl (ptsAt hk) ?_
        o_attr
        exact hK3
      · rw [if_neg (by rw [decide_eq_false h1]; decide)] at hK3
        rw [show (decide ((i : Int) = k) || decide ((j : Int) = k)) = true by
          rw [Bool.or_eq_true, decide_eq_true_eq, decide_eq_true_eq]; omega]
        refine s_brEq (show (!true) = false from rfl) ?_
        o_attr
        exact hK3
    rw [fmap_if]
    obtain ⟨O, eO⟩ : ∃ O, (List.range rows.length).filter (fun (k : Nat) => decide (k ≠ i ∧ k ≠ j)) = O := ⟨_, rfl⟩
    have hO : ∀ k ∈ O, k < rows.length := fun k hk => by
      rw [← eO] at hk
      exact List.mem_range.mp (List.mem_filter.mp hk).1
    have hOl : O.length ≤ 8 := by rw [← eO]; exact Nat.le_trans (List.length_filter_le _ _) (by rw [List.length_range]; exact hr)
    rw [eO, show (O.map fun k => pt (rows.getD k [])) = (O.map fun k => rows.getD k []).map pt by rw [List.map_map]; rfl]
    have hOr : ∀ r ∈ O.map (fun k => rows.getD k []), r.length ≤ 24 := fun r hr => by
      obtain ⟨k, hk, rfl⟩ := List.mem_map.mp hr
      exact hrl _ (getD_mem (hO k hk))
    have hOm : (O.map fun k => rows.getD k []).length = O.length := List.length_map _
    generalize (O.map fun k => rows.getD k []) = R at hOr hOm ⊢
    have hRm : (R.map pt).length = R.length := List.length_map _
    rw [← List.map_append, ← List.map_append]
    o_attr
    o_args
    o_attr
    rw [show ((PyData.tuple ((u3 ++ u4).map PyData.int)).eqv (.tuple [])) = decide (u3 ++ u4 = []) from eqv_pt (u3 ++ u4) []]
    have h12 : (u1 ++ u2).length ≤ 48 := by rw [List.length_append]; omega
    have h34 : (u3 ++ u4).length ≤ 48 := by rw [List.length_append]; omega
    have hOr2 : ∀ r ∈ R, r.length ≤ 200 := fun r hr => Nat.le_trans (hOr r hr) (by decide)
    generalize (u1 ++ u2) = U at h12 ⊢
    generalize (u3 ++ u4) = V at h34 ⊢
    o_attr
    · apply s_lcMap some .int (fun z => if decide (z ≠ (rows.map (midOf some)).getD j 0) = true then Option.some (.int z) else none) rfl; (· (first | (simp only [wipeD, List.set_cons_zero, List.set_cons_succ]; done) | (simp only [wipeD, List.set_cons_zero, List.set_cons_succ]; rfl))); (· (first | (simp only [rst, List.set_cons_zero, List.set_cons_succ, Option.getD_some, List.getElem?_cons_zero, List.getElem?_cons_succ]; done) | (simp only [rst, List.set_cons_zero, List.set_cons_succ, Option.getD_some, List.getElem?_cons_zero, List.getElem?_cons_succ]; rfl)))
      · trivial
      · exact small (k := 8) hs
      · intro z hz K3 hK3
        o_norm
        refine s_ixL rfl (intsAt (i := j) (by omega)) ?_
        o_attr
        · rw [if_neg (by rw [decide_eq_false (fun w => w h)]; decide)] at hK3
          exact hK3
        · rw [if_pos (decide_eq_true h)] at hK3
          exact hK3
      rw [fmap_if]
      obtain ⟨F, eF⟩ : ∃ F, (some.filter fun z => decide (z ≠ (rows.map (midOf some)).getD j 0)) = F := ⟨_, rfl⟩
      have hF : F.length ≤ 8 := by rw [← eF]; exact Nat.le_trans (List.length_filter_le _ _) hs
      rw [eF]
      o_attr
      rw [show R.map pt ++ [PyData.tuple (U.map PyData.int)] = (R ++ [U]).map pt by rw [List.map_append]; rfl]
      refine q _ F (R ++ [U]) [_, _, _, _, _, _, _, _, _, _, _, _, _, _, _] (hP.mono (by omega)) rfl (by omega) (by rw [List.length_append, List.length_singleton]; omega) fun r h => ?_
      rcases List.mem_append.mp h with h | h
      · exact hOr2 r h
      · rw [List.mem_singleton.mp h]; omega
    · rw [show R.map pt ++ [PyData.tuple (U.map PyData.int), PyData.tuple (V.map PyData.int)] = (R ++ [U, V]).map pt by rw [List.map_append]; rfl]
      refine q _ some (R ++ [U, V]) [_, _, _, _, _, _, _, _, _, _, _, _, _, _, _] (hP.mono (by omega)) rfl (by omega) (by rw [List.length_append, List.length_cons, List.length_singleton]; omega) fun r h => ?_
      rcases List.mem_append.mp h with h | h
      · exact hOr2 r h
      · rcases List.mem_cons.mp h with h | h
        · rw [h]; omega
        · rw [List.mem_singleton.mp h]; omega
/-! _law_twice -/
--I X18
def S__law_twice : VSp := fun ds Q _ => ∃ (l : List PyData) (n : Nat) (some : List Int) (rows : List (List Int)), Pot n l ∧ n < 2 ^ 36 ∧ some.length = rows.length ∧ rows.length ≤ 8 ∧ (∀ r ∈ rows, r.length ≤ 24) ∧ ds = [.ow l, .fr (pt some), .fr (pts rows)] ∧ ∀ l' (so : List Int) (rs : List (List Int)) ds', Pot (n + 6) l' → ds'[0]? = Option.some (.ow l') → so.length ≤ 60 → rs.length ≤ 100 → (∀ r ∈ rs, r.length ≤ 200) → Q (.fr (.tuple [pt so, pts rs])) ds'
theorem len__law_twice : ∀ ds Q E, S__law_twice ds Q E → ds.length = 3 := by rintro _ _ _ ⟨_, _, _, _, _, _, _, _, _, rfl, _⟩; rfl
abbrev N__law_twice : List Str := ["pool", "some", "rows", "long", "at", "cut", "to", "parted", "k"]
def t__law_twice : DTS := (cSeq (cAsg (cFrz (cLc [] [8] (cRng1 (cCons (cFn (g1 gLen) (cCons (cVar 2) cNil)) cNil)) (gNm 8) (cTst (c2 (kGt) (cFn (g1 gLen) (cCons (c2 gIx (cVar 2) (cVar 8)) cNil)) (cK (.fr (.int 1))))) (cVar 8))) (gNm 3)) (cSeq (cIfS (cTst (c2 (gEq false) (cVar 3) (cLst cNil))) (cRet (cTup (cCons (cFrz (c2 gAdd (cVar 1) (cSl (cVar 1) cNoP (cPt (cK (.fr (.int 1))))))) (cCons (cVar 2) cNil)))) cNext) (cSeq (cAsg (c2 gIx (cVar 3) (cCall [0] S__law_next (cCons (cVar 0) (cCons (cFn (g1 gLen) (cCons (cVar 3) cNil)) cNil)))) (gNm 4)) (cSeq (cAsg (cFrz (c2 gAdd (cK (.fr (.int 1))) (cCall [0] S__law_next (cCons (cVar 0) (cCons (c2 kSub (cFn (g1 gLen) (cCons (c2 gIx (cVar 2) (cVar 4)) cNil)) (cK (.fr (.int 1)))) cNil))))) (gNm 5)) (cSeq (cAsg (cFrz (cCall [0] S__law_next (cCons (cVar 0) (cCons (cFn (g1 gLen) (cCons (cVar 1) cNil)) cNil)))) (gNm 6)) (cSeq (cAsg (cFrz (c2 gAdd (c2 gAdd (cSl (cVar 2) cNoP (cPt (cVar 4))) (cTup (cCons (cFrz (cSl (c2 gIx (cVar 2) (cVar 4)) cNoP (cPt (cVar 5)))) (cCons (cFrz (cSl (c2 gIx (cVar 2) (cVar 4)) (cPt (cVar 5)) cNoP)) cNil)))) (cSl (cVar 2) (cPt (c2 gAdd (cVar 4) (cK (.fr (.int 1))))) cNoP))) (gNm 7)) (cRet (cTup (cCons (cFrz (c2 gAdd (c2 gAdd (cSl (cVar 1) cNoP (cPt (cVar 6))) (cSl (cVar 1) (cPt (cVar 6)) (cPt (c2 gAdd (cVar 6) (cK (.fr (.int 1))))))) (cSl (cVar 1) (cPt (cVar 6)) cNoP))) (cCons (cVar 7) cNil))))))))))
theorem cutG_lenC {α : Type} (l : List α) (lo hi : Option Int) : (cutG l lo hi).length ≤ l.length := by unfold cutG; rw [List.length_take, List.length_drop]; omega
theorem cutG_memC {α : Type} {l : List α} {lo hi : Option Int} {x : α} (h : x ∈ cutG l lo hi) : x ∈ l := by unfold cutG at h; exact List.mem_of_mem_drop (List.mem_of_mem_take h)
theorem r__law_twice : ∀ ds Q0 E0, S__law_twice ds Q0 E0 → t__law_twice (dEnds Q0) (ds ++ List.replicate (N__law_twice.length - 3) .gone) := by
  rintro ds Q0 E0 ⟨l, n, some, rows, hP, hn, hsl, hr, hrl, rfl, q⟩
  have hxl : (List.map pt rows).length = rows.length := List.length_map _
  have hsm : (some.map PyData.int).length = some.length := List.length_map _
  simp only [N__law_twice, List.length_cons, List.length_nil, List.cons_append, List.nil_append, Nat.reduceAdd, Nat.reduceSub, Nat.zero_add, List.replicate_succ, List.replicate_zero]; unfold t__law_twice
  o_attr
  rw [hxl]
  refine s_rng1K (by omega) (by omega) ?_
  o_attr
  apply s_lcMap (List.range rows.length) (fun (i : Nat) => .int (i : Int)) (fun (i : Nat) => if decide (1 < (rows.getD i []).length) = true then Option.some (.int (i : Int)) else none) (rngN rows.length); (· (first | (simp only [wipeD, List.set_cons_zero, List.set_cons_succ]; done) | (simp only [wipeD, List.set_cons_zero, List.set_cons_succ]; rfl))); (· (first | (simp only [rst, List.set_cons_zero, List.set_cons_succ, Option.getD_some, List.getElem?_cons_zero, List.getElem?_cons_succ]; done) | (simp only [rst, List.set_cons_zero, List.set_cons_succ, Option.getD_some, List.getElem?_cons_zero, List.getElem?_cons_succ]; rfl)))
  · trivial
  · rw [List.length_range]; exact small (k := 8) hr
  · intro i hi K hK
    have hi := List.mem_range.mp hi
    have hrm : ((rows.getD i []).map PyData.int).length = (rows.getD i []).length := List.length_map _
    o_norm
    refine s_ixT rfl (ptsAt hi) ?_
    o_attr
    · rw [if_pos (decide_eq_true (by omega))] at hK
      exact hK
    · rw [if_neg (by rw [decide_eq_false (by omega)]; decide)] at hK
      exact hK
  rw [fmap_if]
  o_attr
  o_args
  have j0 : IL 8 (some.map PyData.int) := IL.of (by omega)
  have cs : ∀ lo hi, (cut (some.map PyData.int) lo hi).length ≤ 8 := fun lo hi => (j0.cut lo hi).len
  have cr : ∀ lo hi, (cut (rows.map pt) lo hi).length ≤ 8 := fun lo hi => by rw [cut_map, List.length_map]; exact Nat.le_trans (cutG_lenC _ _ _) hr
  have fin : ∀ (l' : List PyData) (xs ys : List PyData) ds', Pot (n + 6) l' → ds'[0]? = Option.some (.ow l') → IL 60 xs → (∃ rs : List (List Int), ys = rs.map pt ∧ rs.length ≤ 100 ∧ ∀ r ∈ rs, r.length ≤ 200) → Q0 (.fr (.tuple [.tuple xs, .tuple ys])) ds' := by
    rintro l' xs ys ds' h1 h2 ⟨so, rfl, h3⟩ ⟨rs, rfl, h4, h5⟩
    exact q _ _ _ _ h1 h2 h3 h4 h5
  have c1 := cs none (Option.some 1)
  o_attr
  · exact fin _ _ _ _ (hP.mono (by omega)) rfl ((j0.app (j0.cut _ _)).mono (by decide)) ⟨rows, rfl, by omega, fun r h => Nat.le_trans (hrl r h) (by decide)⟩
  · obtain ⟨lg, elg⟩ : ∃ lg, (List.range rows.length).filter (fun i => decide (1 < (rows.getD i []).length)) = lg := ⟨_, rfl⟩
    have hlg : ∀ i ∈ lg, i < rows.length ∧ 1 < (rows.getD i []).length := fun i hi => by
      rw [← elg] at hi
      have := List.mem_filter.mp hi
      exact ⟨List.mem_range.mp this.1, of_decide_eq_true this.2⟩
    have hll : lg.length ≤ 8 := by rw [← elg]; exact Nat.le_trans (List.length_filter_le _ _) (by rw [List.length_range]; exact hr)
    rw [elg]
    have hne : lg ≠ [] := fun z => by
      rw [elg, z] at h
      exact h rfl
    have hpos := List.length_pos_iff.mpr hne
    have hlm : (lg.map fun (i : Nat) => PyData.int (i : Int)).length = lg.length := List.length_map _
    refine ⟨_, _, _, hP, by omega, by omega, by omega, rfl, fun l x ds1 hP h0x h1x e1 => ?_⟩; ((with_reducible apply s_up); (· (first | (simp only [upds, List.set_cons_zero, List.set_cons_succ, Option.getD_some, e1]; done) | (simp only [upds, List.set_cons_zero, List.set_cons_succ, Option.getD_some, e1]; rfl)))); o_attr
    obtain ⟨x, rfl⟩ := Int.eq_ofNat_of_zero_le h0x
    have hxl2 : x < lg.length := by omega
    obtain ⟨k, ek, hk1, hk2⟩ : ∃ k : Nat, atI (lg.map fun (i : Nat) => PyData.int (i : Int)) (x : Int) = Option.some (.int (k : Int)) ∧ k < rows.length ∧ 1 < (rows.getD k []).length := by
      refine ⟨lg[x], ?_, (hlg _ (List.getElem_mem hxl2)).1, (hlg _ (List.getElem_mem hxl2)).2⟩
      apply atI_ok
      rw [List.getElem?_map, List.getElem?_eq_getElem hxl2]; rfl
    refine s_ixL rfl ek ?_
    o_attr
    o_args
    have hrr := hrl _ (getD_mem hk1)
    have hrm : ((rows.getD k []).map PyData.int).length = (rows.getD k []).length := List.length_map _
    o_attr
    refine s_ixT rfl (ptsAt hk1) ?_
    o_attr
    rw [hrm]
    refine ⟨_, _, _, hP, by omega, by omega, by omega, rfl, fun l c ds1 hP h0c h1c e1 => ?_⟩; ((with_reducible apply s_up); (· (first | (simp only [upds, List.set_cons_zero, List.set_cons_succ, Option.getD_some, e1]; done) | (simp only [upds, List.set_cons_zero, List.set_cons_succ, Option.getD_some, e1]; rfl)))); o_attr
    o_args
    o_attr
    rw [hsm]
    refine ⟨_, _, _, hP, by omega, by omega, by omega, rfl, fun l t ds1 hP h0t h1t e1 => ?_⟩; ((with_reducible apply s_up); (· (first | (simp only [upds, List.set_cons_zero, List.set_cons_succ, Option.getD_some, e1]; done) | (simp only [upds, List.set_cons_zero, List.set_cons_succ, Option.getD_some, e1]; rfl)))); o_attr
    o_args
    o_attr
    refine s_ixT rfl (ptsAt hk1) ?_
    o_attr
    refine s_ixT rfl (ptsAt hk1) ?_
    have c2 := cr none (Option.some (k : Int))
    have c3 := cr (Option.some ((k : Int) + 1)) none
    have c4 := cs none (Option.some t)
    have c5 := cs (Option.some t) (Option.some (t + 1))
    have c6 := cs (Option.some t) none
    have j1 : IL 24 ((rows.getD k []).map PyData.int) := IL.of hrr
    o_attr
    o_args
    o_attr
    refine fin _ _ _ _ (hP.mono (by omega)) rfl ((((j0.cut _ _).app (j0.cut _ _)).app (j0.cut _ _)).mono (by decide)) ?_
    obtain ⟨u, eu, hu⟩ := j1.cut none (Option.some (1 + c))
    obtain ⟨v, ev, hv⟩ := j1.cut (Option.some (1 + c)) none
    refine ⟨cutG rows none (Option.some (k : Int)) ++ [u, v] ++ cutG rows (Option.some ((k : Int) + 1)) none, ?_, ?_, ?_⟩
    · rw [List.map_append, List.map_append, ← cut_map, ← cut_map, eu, ev]; rfl
    · have h1 := cutG_lenC rows none (Option.some (k : Int))
      have h2 := cutG_lenC rows (Option.some ((k : Int) + 1)) none
      simp only [List.length_append, List.length_cons, List.length_nil]
      omega
    · intro r hr
      simp only [List.mem_append, List.mem_cons, List.not_mem_nil, or_false] at hr
      rcases hr with (hr | rfl | rfl) | hr
      · exact Nat.le_trans (hrl _ (cutG_memC hr)) (by decide)
      · omega
      · omega
      · exact Nat.le_trans (hrl _ (cutG_memC hr)) (by decide)
/-! _law_falls -/
--I X18
def S__law_falls : VSp := fun ds Q _ => ∃ (ps : List (List Int)) (row : List Int), Pts ps ∧ row.length ≤ 200 ∧ (∀ x ∈ row, 0 ≤ x ∧ x.toNat < ps.length) ∧ ds = [.fr (pts ps), .fr (pt row)] ∧ ∀ ds', Q (.fr (.bool (fallsB ps row))) ds'
theorem len__law_falls : ∀ ds Q E, S__law_falls ds Q E → ds.length = 2 := by rintro _ _ _ ⟨_, _, _, _, _, rfl, _⟩; rfl
abbrev N__law_falls : List Str := ["points", "row", "k"]
def t__law_falls : DTS := (cSeq (cFor [] (cRng2 (cCons (cK (.fr (.int 1))) (cCons (cFn (g1 gLen) (cCons (cVar 1) cNil)) cNil))) (gNm 2) (cIfS (cNot (cTst (cCall [] S__law_over (cCons (c2 gIx (cVar 0) (c2 gIx (cVar 1) (c2 kSub (cVar 2) (cK (.fr (.int 1)))))) (cCons (c2 gIx (cVar 0) (c2 gIx (cVar 1) (cVar 2))) cNil))))) (cRet (cK (.fr (.bool false)))) cNext)) (cRet (cK (.fr (.bool true)))))
theorem falls_at (ps : List (List Int)) (row : List Int) : fallsB ps row = true ↔ ∀ k, k + 1 < row.length → beats (ps.getD (row.getD k 0).toNat []) (ps.getD (row.getD (k + 1) 0).toNat []) = true := by
  unfold fallsB
  rw [List.all_eq_true]
  constructor
  · intro h k hk
    refine h (row.getD k 0, row.getD (k + 1) 0) (List.mem_iff_getElem?.mpr ⟨k, ?_⟩)
    rw [List.getElem?_zip_eq_some, List.getElem?_drop, List.getD_eq_getElem?_getD, List.getD_eq_getElem?_getD, List.getElem?_eq_getElem (by omega : k < row.length), Nat.add_comm 1 k, List.getElem?_eq_getElem hk]
    exact ⟨rfl, rfl⟩
  · rintro h ⟨a, b⟩ hm
    obtain ⟨k, hk⟩ := List.mem_iff_getElem?.mp hm
    rw [List.getElem?_zip_eq_some, List.getElem?_drop] at hk
    obtain ⟨h1, h2⟩ := hk
    have hb := (List.getElem?_eq_some_iff.mp h2).1
    have := h k (by omega)
    rw [show row.getD k 0 = a by rw [List.getD_eq_getElem?_getD, h1]; rfl, show row.getD (k + 1) 0 = b by rw [List.getD_eq_getElem?_getD, Nat.add_comm k 1, h2]; rfl] at this
    exact this
theorem rng_1n (n : Nat) : rng 1 (n : Int) = (List.range' 1 (n - 1)).map fun (i : Nat) => .int (i : Int) := by
  cases n with
  | zero => rfl
  | succ n =>
    have := rng_from 1 n
    rw [show (1 + n : Nat) = n + 1 by omega] at this
    exact this
theorem r__law_falls : ∀ ds Q0 E0, S__law_falls ds Q0 E0 → t__law_falls (dEnds Q0) (ds ++ List.replicate (N__law_falls.length - 2) .gone) := by
  rintro ds Q0 E0 ⟨ps, row, hp, hs, hin, rfl, q⟩
  have hrl : (row.map PyData.int).length = row.length := List.length_map _
  simp only [N__law_falls, List.length_cons, List.length_nil, List.cons_append, List.nil_append, Nat.reduceAdd, Nat.reduceSub, Nat.zero_add, List.replicate_succ, List.replicate_zero]; unfold t__law_falls
  o_attr
  rw [hrl]
  refine s_rng2K (by omega) (by omega) (by omega) (by omega) ?_
  o_attr
  refine s_forMap (List.range' 1 (row.length - 1)) (fun (i : Nat) => .int (i : Int)) (fun l' st => ∃ (k : Nat) (d2 : Vl), l' = List.range' (1 + k) (row.length - 1 - k) ∧ (∀ j, j < k → beats (ps.getD (row.getD j 0).toNat []) (ps.getD (row.getD (j + 1) 0).toNat []) = true) ∧ st = [.fr (pts ps), .fr (pt row), d2]) (rng_1n row.length) trivial ⟨0, _, rfl, by intro j hj; omega, rfl⟩ ?_ ?_
  · rintro x l' st ⟨k, d2, hk, hall, rfl⟩ K hK
    obtain ⟨n', hn'⟩ : ∃ n', row.length - 1 - k = n' + 1 := by
      cases e : row.length - 1 - k with
      | zero => rw [e] at hk; cases hk
      | succ n => exact ⟨n, rfl⟩
    rw [hn', List.range'_succ] at hk
    obtain ⟨rfl, hk2⟩ := List.cons.inj hk
    obtain ⟨a1, a2⟩ := hin (row.getD k 0) (by rw [List.getD_eq_getElem?_getD, List.getElem?_eq_getElem (by omega : k < row.length)]; exact List.getElem_mem _)
    obtain ⟨b1, b2⟩ := hin (row.getD (k + 1) 0) (by rw [List.getD_eq_getElem?_getD, List.getElem?_eq_getElem (by omega : k + 1 < row.length)]; exact List.getElem_mem _)
    o_norm
    rw [show (((1 + k : Nat) : Int) - 1) = (k : Int) by omega]
    refine s_ixT rfl (intsAt (i := k) (by omega)) ?_
    o_attr
    refine s_ixT rfl (ptsAtI a1 (by omega)) ?_
    o_attr
    rw [show 1 + k = k + 1 by omega]
    refine s_ixT rfl (intsAt (i := k + 1) (by omega)) ?_
    o_attr
    refine s_ixT rfl (ptsAtI b1 (by omega)) ?_
    o_attr
    refine ⟨_, _, hp.at_ a2, hp.at_ b2, rfl, fun ds' => ?_⟩
    o_attr
    refine s_br (fun h => ?_) (fun h => ?_)
    · o_attr
      refine hK _ ⟨k + 1, _, by rw [hk2]; congr 1 <;> omega, fun j hj => ?_, rfl⟩ trivial
      by_cases e : j = k
      · subst e; exact h
      · exact hall j (by omega)
    · o_attr
      have e : fallsB ps row = false := by
        rw [Bool.eq_false_iff]
        intro z
        have := (falls_at ps row).mp z k (by omega)
        rw [h] at this
        cases this
      rw [e] at q
      exact q _
  · rintro st ⟨k, d2, hk, hall, rfl⟩
    have hk : row.length - 1 - k = 0 := by
      cases e : row.length - 1 - k with
      | zero => rfl
      | succ n => rw [e] at hk; cases hk
    o_attr
    rw [show fallsB ps row = true from (falls_at ps row).mpr fun j hj => hall j (by omega)] at q
    exact q _
/-! _law_clash -/
--I X18
def S__law_clash : VSp := fun ds Q _ => ∃ (ps : List (List Int)) (some : List Int), Pts ps ∧ some.length ≤ 100 ∧ (∀ x ∈ some, 0 ≤ x ∧ x.toNat < ps.length) ∧ ds = [.fr (pts ps), .fr (pt some)] ∧ ∀ ds', Q (.fr (.bool (clashB ps some))) ds'
theorem len__law_clash : ∀ ds Q E, S__law_clash ds Q E → ds.length = 2 := by rintro _ _ _ ⟨_, _, _, _, _, rfl, _⟩; rfl
abbrev N__law_clash : List Str := ["points", "some", "one", "other"]
def t__law_clash : DTS := (cSeq (cFor [] (cSeqI (cVar 1)) (gNm 2) (cIfS (cTst (c2 (gEq true) (cLc [] [3] (cSeqI (cVar 1)) (gNm 3) (cTst (cCall [] S__law_over (cCons (c2 gIx (cVar 0) (cVar 2)) (cCons (c2 gIx (cVar 0) (cVar 3)) cNil)))) (cK (.fr (.int 1)))) (cLst cNil))) (cRet (cK (.fr (.bool true)))) cNext)) (cRet (cK (.fr (.bool false)))))
theorem r__law_clash : ∀ ds Q0 E0, S__law_clash ds Q0 E0 → t__law_clash (dEnds Q0) (ds ++ List.replicate (N__law_clash.length - 2) .gone) := by
  rintro ds Q0 E0 ⟨ps, some, hp, hs, hin, rfl, q⟩
  simp only [N__law_clash, List.length_cons, List.length_nil, List.cons_append, List.nil_append, Nat.reduceAdd, Nat.reduceSub, Nat.zero_add, List.replicate_succ, List.replicate_zero]; unfold t__law_clash
  o_attr
  refine s_forMap some .int (fun l' st => ∃ (pre : List Int) (d2 : Vl), some = pre ++ l' ∧ (pre.any fun a => some.any fun b => beats (ps.getD a.toNat []) (ps.getD b.toNat [])) = false ∧ st = [.fr (pts ps), .fr (pt some), d2, .gone]) rfl trivial ⟨[], _, rfl, rfl, rfl⟩ ?_ ?_
  · rintro x l' st ⟨pre, d2, hpre, hno, rfl⟩ K hK
    have hx : x ∈ some := by rw [hpre]; simp
    o_norm
    apply s_lcMap some .int (fun y => if beats (ps.getD x.toNat []) (ps.getD y.toNat []) = true then Option.some (.int 1) else none) rfl; (· (first | (simp only [wipeD, List.set_cons_zero, List.set_cons_succ]; done) | (simp only [wipeD, List.set_cons_zero, List.set_cons_succ]; rfl))); (· (first | (simp only [rst, List.set_cons_zero, List.set_cons_succ, Option.getD_some, List.getElem?_cons_zero, List.getElem?_cons_succ]; done) | (simp only [rst, List.set_cons_zero, List.set_cons_succ, Option.getD_some, List.getElem?_cons_zero, List.getElem?_cons_succ]; rfl)))
    · trivial
    · exact small (k := 100) hs
    · intro y hy K2 hK2
      obtain ⟨a1, a2⟩ := hin x hx
      obtain ⟨b1, b2⟩ := hin y hy
      o_norm
      refine s_ixT rfl (ptsAtI a1 (by omega)) ?_
      o_attr
      refine s_ixT rfl (ptsAtI b1 (by omega)) ?_
      o_attr
      refine ⟨_, _, hp.at_ a2, hp.at_ b2, rfl, fun ds' => ?_⟩
      o_attr
      refine s_br (fun h => ?_) (fun h => ?_)
      · rw [if_pos h] at hK2
        o_attr
        exact hK2
      · rw [if_neg (by rw [h]; decide)] at hK2
        o_attr
        exact hK2
    rw [fmap_if]
    have hcl : (List.map (fun _ => PyData.int 1) (some.filter fun y => beats (ps.getD x.toNat []) (ps.getD y.toNat [])) = []) ↔ (some.any fun y => beats (ps.getD x.toNat []) (ps.getD y.toNat [])) = false := by
      rw [List.map_eq_nil_iff, List.filter_eq_nil_iff, List.any_eq_false]
    o_attr
    · have h := hcl.mp (by assumption)
      refine hK _ ⟨pre ++ [x], _, by rw [hpre, List.append_assoc]; rfl, ?_, rfl⟩ trivial
      rw [List.any_append, hno, Bool.false_or, List.any_cons, List.any_nil, Bool.or_false]
      exact h
    · have h : (some.any fun y => beats (ps.getD x.toNat []) (ps.getD y.toNat [])) = true := by
        rw [← Bool.not_eq_false]
        exact fun z => absurd (hcl.mpr z) (by assumption)
      rw [show clashB ps some = true from List.any_eq_true.mpr ⟨x, hx, h⟩] at q
      exact q _
  · rintro st ⟨pre, d2, hpre, hno, rfl⟩
    rw [List.append_nil] at hpre
    subst hpre
    o_attr
    rw [show clashB ps some = false from hno] at q
    exact q _
/-! _law_is_spread -/
--I X18
def S__law_is_spread : VSp := fun ds Q _ => ∃ (ps : List (List Int)) (some : List Int) (rows : List (List Int)), Pts ps ∧ some.length ≤ 60 ∧ rows.length ≤ 100 ∧ (∀ r ∈ rows, r.length ≤ 200) ∧ ds = [.fr (pts ps), .fr (pt some), .fr (pts rows)] ∧ ∀ ds', Q (.fr (.bool (spreadB ps some rows))) ds'
theorem len__law_is_spread : ∀ ds Q E, S__law_is_spread ds Q E → ds.length = 3 := by rintro _ _ _ ⟨_, _, _, _, _, _, _, rfl, _⟩; rfl
abbrev N__law_is_spread : List Str := ["points", "some", "rows", "numbers", "row", "one"]
def t__law_is_spread : DTS := (cSeq (cAsg (cFrz (cFn (g1 gLst) (cCons (cVar 1) cNil))) (gNm 3)) (cSeq (cFor [] (cSeqI (cVar 2)) (gNm 4) (cAsg (cFrz (c2 gAdd (cVar 3) (cFn (g1 gLst) (cCons (cVar 4) cNil)))) (gNm 3))) (cSeq (cIfS (cOr (cTst (c2 (gEq true) (cFn (g1 gLen) (cCons (cVar 1) cNil)) (cFn (g1 gLen) (cCons (cVar 2) cNil)))) (cTst (c2 (gEq true) (cLc [] [5] (cSeqI (cVar 3)) (gNm 5) (cOr (cTst (c2 (kLt) (cVar 5) (cK (.fr (.int 0))))) (cTst (c2 (kGe) (cVar 5) (cFn (g1 gLen) (cCons (cVar 0) cNil))))) (cK (.fr (.int 1)))) (cLst cNil)))) (cRet (cK (.fr (.bool false)))) cNext) (cSeq (cIfS (cOr (cTst (c2 (gEq true) (cFn (g1 gLst) (cCons (cVar 1) cNil)) (cFn (g1 gSs) (cCons (cVar 1) cNil)))) (cOr (cTst (c2 (gIn false) (cTup cNil) (cVar 2))) (cTst (cCall [] S__law_clash (cCons (cVar 0) (cCons (cVar 1) cNil)))))) (cRet (cK (.fr (.bool false)))) cNext) (cSeq (cIfS (cTst (c2 (gEq true) (cLc [] [4] (cSeqI (cVar 2)) (gNm 4) (cNot (cTst (cCall [] S__law_falls (cCons (cVar 0) (cCons (cVar 4) cNil))))) (cK (.fr (.int 1)))) (cLst cNil))) (cRet (cK (.fr (.bool false)))) cNext) (cRet (c2 (gEq false) (cFn (g1 gSrt) (cCons (cSl (cVar 3) (cPt (cFn (g1 gLen) (cCons (cVar 1) cNil))) cNoP) cNil)) (cLsR (cRgA (cFn (g1 gLen) (cCons (cVar 0) cNil)))))))))))
theorem flat_len2 {rows : List (List Int)} (h : ∀ r ∈ rows, r.length ≤ 200) : rows.flatten.length ≤ 200 * rows.length := by
  induction rows with
  | nil => exact Nat.zero_le _
  | cons r rows ih =>
    have h1 := h r List.mem_cons_self
    have h2 := ih fun x hx => h x (List.mem_cons_of_mem _ hx)
    rw [List.flatten_cons, List.length_append, List.length_cons]
    omega
theorem outs (l : List Int) (n : Nat) : (l.filter fun x => !inR n x).map (fun _ => PyData.int 1) = [] ↔ l.all (inR n) = true := by
  rw [List.map_eq_nil_iff, List.filter_eq_nil_iff, List.all_eq_true]
  constructor
  · intro h x hx
    have := h x hx
    simpa using this
  · intro h x hx
    rw [h x hx]; decide
theorem nofalls (ps : List (List Int)) (rows : List (List Int)) : (rows.filter fun r => !fallsB ps r).map (fun _ => PyData.int 1) = [] ↔ rows.all (fallsB ps) = true := by
  rw [List.map_eq_nil_iff, List.filter_eq_nil_iff, List.all_eq_true]
  constructor
  · intro h x hx
    have := h x hx
    simpa using this
  · intro h x hx
    rw [h x hx]; decide
theorem r__law_is_spread : ∀ ds Q0 E0, S__law_is_spread ds Q0 E0 → t__law_is_spread (dEnds Q0) (ds ++ List.replicate (N__law_is_spread.length - 3) .gone) := by
  rintro ds Q0 E0 ⟨ps, some, rows, hp, hs, hr, hrl, rfl, q⟩
  rw [spread_eq] at q
  unfold lawB at q
  have hpl : (List.map pt ps).length = ps.length := List.length_map _
  have hsl : (some.map PyData.int).length = some.length := List.length_map _
  have hrw : (List.map pt rows).length = rows.length := List.length_map _
  have hfa := flat_len2 hrl
  have hfb := Nat.mul_le_mul_left 200 hr
  simp only [N__law_is_spread, List.length_cons, List.length_nil, List.cons_append, List.nil_append, Nat.reduceAdd, Nat.reduceSub, Nat.zero_add, List.replicate_succ, List.replicate_zero]; unfold t__law_is_spread
  o_attr
  o_args
  with_reducible refine s_seqCut (fun st => ∃ d4 : Vl, (d4 = .gone ∨ ∃ x, d4 = .fr x) ∧ st = [.fr (pts ps), .fr (pt some), .fr (pts rows), .fr (.list ((some ++ rows.flatten).map .int)), d4, .gone]) (fun K hK => ?_) ?_
  · o_attr
    refine s_forMap rows pt (fun l' st => ∃ (pre : List (List Int)) (d4 : Vl), rows = pre ++ l' ∧ (d4 = .gone ∨ ∃ x, d4 = .fr x) ∧ st = [.fr (pts ps), .fr (pt some), .fr (pts rows), .fr (.list ((some ++ pre.flatten).map .int)), d4, .gone]) rfl trivial ⟨[], _, rfl, .inl rfl, by rw [List.flatten_nil, List.append_nil]⟩ ?_ ?_
    · rintro r l' st ⟨pre, d4, hpre, _, rfl⟩ K2 hK2
      have hfl := flat_len2 (rows := pre) fun x hx => hrl x (by rw [hpre]; exact List.mem_append_left _ hx)
      have hrr := hrl r (by rw [hpre]; simp)
      have hpr : pre.length ≤ 100 := by rw [hpre, List.length_append] at hr; omega
      have := Nat.mul_le_mul_left 200 hpr
      o_norm
      exact hK2 _ ⟨pre ++ [r], _, by rw [hpre, List.append_assoc]; rfl, .inr ⟨_, rfl⟩, by rw [List.flatten_append, List.flatten_singleton, ← List.append_assoc, List.map_append (l₁ := some ++ pre.flatten)]⟩ trivial
    · rintro st ⟨pre, d4, hpre, hd, rfl⟩
      rw [List.append_nil] at hpre
      subst hpre
      o_attr
      exact hK _ ⟨_, hd, rfl⟩
  rintro st ⟨d4, hd, rfl⟩
  o_attr
  · have h1 : some.length = rows.length := by omega
    rw [decide_eq_true h1, Bool.true_and] at q
    apply s_lcMap (some ++ rows.flatten) .int (fun x => if (!inR ps.length x) = true then Option.some (.int 1) else none) rfl; (· (first | (simp only [wipeD, List.set_cons_zero, List.set_cons_succ]; done) | (simp only [wipeD, List.set_cons_zero, List.set_cons_succ]; rfl))); (· (first | (simp only [rst, List.set_cons_zero, List.set_cons_succ, Option.getD_some, List.getElem?_cons_zero, List.getElem?_cons_succ]; done) | (simp only [rst, List.set_cons_zero, List.set_cons_succ, Option.getD_some, List.getElem?_cons_zero, List.getElem?_cons_succ]; rfl)))
    · trivial
    · refine small (k := 50000) ?_
      rw [List.length_append]; omega
    · intro x hx K hK
      o_norm
      · rw [if_pos (by unfold DL.inR; rw [decide_eq_false (by omega)]; rfl)] at hK
        exact hK
      · rw [if_pos (by unfold DL.inR; rw [decide_eq_false (by omega)]; rfl)] at hK
        exact hK
      · rw [if_neg (by unfold DL.inR; rw [decide_eq_true (by omega)]; decide)] at hK
        exact hK
    rw [fmap_if]
    o_attr
    · have h2 : (some ++ rows.flatten).all (inR ps.length) = true := (outs _ _).mp (by assumption)
      have hin : ∀ x ∈ some ++ rows.flatten, 0 ≤ x ∧ x.toNat < ps.length := fun x hx => by
        have := of_decide_eq_true (List.all_eq_true.mp h2 x hx)
        omega
      rw [h2, Bool.true_and] at q
      refine s_ss some (.inr rfl) (by omega) ?_
      o_attr
      · have h3 : some = uniI some := by assumption
        rw [decide_eq_true h3, Bool.true_and] at q
        refine s_inT rfl rfl (by rfl) (by rw [List.all_map]; exact List.all_eq_true.mpr fun x _ => dep_pt60 x) ?_
        rw [show ((rows.map pt).any fun z => PyData.eqv z (.tuple [])) = rows.any fun r => decide (r = []) by
          rw [List.any_map]
          congr 1
          funext r
          exact eqv_pt r []]
        o_attr
        refine s_br (fun h4 => ?_) (fun h4 => ?_)
        · rw [h4, Bool.not_true, Bool.false_and] at q
          o_attr
          exact q _
        · rw [h4, Bool.not_false, Bool.true_and] at q
          o_attr
          refine ⟨ps, some, hp, by omega, fun x hx => hin x (List.mem_append_left _ hx), rfl, fun ds' => ?_⟩
          o_attr
          refine s_br (fun h5 => ?_) (fun h5 => ?_)
          · rw [h5, Bool.not_true, Bool.false_and] at q
            o_attr
            exact q _
          · rw [h5, Bool.not_false, Bool.true_and] at q
            o_attr
            refine ⟨by rcases hd with rfl | ⟨x, rfl⟩ <;> rfl, ?_⟩
            apply s_lcMap rows pt (fun r => if (!fallsB ps r) = true then Option.some (.int 1) else none) rfl; (· (first | (simp only [wipeD, List.set_cons_zero, List.set_cons_succ]; done) | (simp only [wipeD, List.set_cons_zero, List.set_cons_succ]; rfl))); (· (first | (simp only [rst, List.set_cons_zero, List.set_cons_succ, Option.getD_some, List.getElem?_cons_zero, List.getElem?_cons_succ]; done) | (simp only [rst, List.set_cons_zero, List.set_cons_succ, Option.getD_some, List.getElem?_cons_zero, List.getElem?_cons_succ]; rfl)))
            · trivial
            · exact small (k := 100) hr
            · intro r hrm K hK
              o_norm
              refine ⟨ps, r, hp, hrl r hrm, fun x hx => hin x (List.mem_append_right _ (List.mem_flatten.mpr ⟨r, hrm, hx⟩)), rfl, fun ds' => ?_⟩
              o_attr
              refine s_br (fun h => ?_) (fun h => ?_)
              · rw [if_neg (by rw [h]; decide)] at hK
                o_attr
                exact hK
              · rw [if_pos (by rw [h]; rfl)] at hK
                o_attr
                exact hK
            rw [fmap_if]
            o_attr
            · have h6 : rows.all (fallsB ps) = true := (nofalls _ _).mp (by assumption)
              rw [h6, Bool.true_and] at q
              have hp1 := hp.1
              rw [show cut ((some ++ rows.flatten).map PyData.int) (Option.some ((some.map PyData.int).length : Int)) none = rows.flatten.map .int by rw [cut_drop (k := (some.map PyData.int).length), hsl, ← List.map_drop, List.drop_left]]
              refine s_srtI rows.flatten rfl ?_
              o_attr
              rw [hpl, rngN]
              rw [show (List.range ps.length).map (fun (i : Nat) => PyData.int (i : Int)) = (rngL ps.length).map .int by unfold rngL; rw [List.map_map]; rfl]
              rw [show PyData.eqv (.list ((rows.flatten.mergeSort fun a b => decide (a ≤ b)).map .int)) (.list ((rngL ps.length).map .int)) = decide (srt rows.flatten = rngL ps.length) from eqv_pl _ _]
              exact q _
            · have h6 : rows.all (fallsB ps) = false := by
                rw [Bool.eq_false_iff]
                exact fun z => absurd ((nofalls _ _).mpr z) (by assumption)
              rw [h6, Bool.false_and] at q
              exact q _
      · have h3 : ¬ some = uniI some := by assumption
        rw [decide_eq_false h3, Bool.false_and] at q
        exact q _
    · have h2 : (some ++ rows.flatten).all (inR ps.length) = false := by
        rw [Bool.eq_false_iff]
        exact fun z => absurd ((outs _ _).mpr z) (by assumption)
      rw [h2, Bool.false_and] at q
      exact q _
  · have h1 : ¬ some.length = rows.length := by omega
    rw [decide_eq_false h1, Bool.false_and] at q
    exact q _
/-! _law_right -/
--I X18
def S__law_right : VSp := fun ds Q _ => ∃ (m : Int) (ps : List (List Int)) (some : List Int) (rows : List (List Int)), Pts ps ∧ some.length ≤ 60 ∧ rows.length ≤ 100 ∧ (∀ r ∈ rows, r.length ≤ 200) ∧ ds = [.fr (.tuple [.int m, pts ps]), .fr (pt some), .fr (pts rows)] ∧ ∀ ds', Q (.fr (.bool true)) ds'
theorem len__law_right : ∀ ds Q E, S__law_right ds Q E → ds.length = 3 := by rintro _ _ _ ⟨_, _, _, _, _, _, _, _, rfl, _⟩; rfl
abbrev N__law_right : List Str := ["book", "some", "rows", "due", "found", "again", "one"]
def t__law_right : DTS := (cSeq (cAsg (cFrz (cCall [] S__law_is_spread (cCons (c2 gIx (cVar 0) (cK (.fr (.int 1)))) (cCons (cVar 1) (cCons (cVar 2) cNil))))) (gNm 3)) (cSeq (cAsg (cFrz (cLc [] [5] (cRng1 (cCons (cK (.fr (.int 2))) cNil)) (gNm 5) cYes (cFrz (cCall [] S_spread_right (cCons (cVar 0) (cCons (cVar 1) (cCons (cVar 2) cNil))))))) (gNm 4)) (cRet (c2 (gEq false) (cLc [] [6] (cSeqI (cVar 4)) (gNm 6) (cOr (cNot (cTst (cFn (gIsD "bool" PyData.isBool) (cCons (cVar 6) (cCons (cK (.cst (.ty "bool"))) cNil))))) (cTst (c2 (gEq true) (cVar 6) (cVar 3)))) (cK (.fr (.int 1)))) (cLst cNil)))))
theorem r__law_right : ∀ ds Q0 E0, S__law_right ds Q0 E0 → t__law_right (dEnds Q0) (ds ++ List.replicate (N__law_right.length - 3) .gone) := by
  rintro ds Q0 E0 ⟨m, ps, some, rows, hp, hs, hr, hrl, rfl, q⟩
  simp only [N__law_right, List.length_cons, List.length_nil, List.cons_append, List.nil_append, Nat.reduceAdd, Nat.reduceSub, Nat.zero_add, List.replicate_succ, List.replicate_zero]; unfold t__law_right
  o_attr
  refine ⟨ps, some, rows, hp, hs, hr, hrl, rfl, fun ds' => ?_⟩
  o_attr
  o_args
  o_attr
  refine s_rng1K (by decide) (by decide) ?_
  o_attr
  apply s_lcMap (List.range 2) (fun (i : Nat) => .int (i : Int)) (fun _ => Option.some (.bool (spreadB ps some rows))) (rngN 2); (· (first | (simp only [wipeD, List.set_cons_zero, List.set_cons_succ]; done) | (simp only [wipeD, List.set_cons_zero, List.set_cons_succ]; rfl))); (· (first | (simp only [rst, List.set_cons_zero, List.set_cons_succ, Option.getD_some, List.getElem?_cons_zero, List.getElem?_cons_succ]; done) | (simp only [rst, List.set_cons_zero, List.set_cons_succ, Option.getD_some, List.getElem?_cons_zero, List.getElem?_cons_succ]; rfl)))
  · trivial
  · exact small (k := 2) (by decide)
  · intro i _ K hK
    o_norm
    refine ⟨m, ps, some, rows, hp, hs, hr, hrl, rfl, fun ds' => ?_⟩
    o_attr
    exact hK
  rw [fmap_some]
  o_attr
  o_args
  o_attr
  apply s_lcMap (List.range 2) (fun _ => .bool (spreadB ps some rows)) (fun _ => none) rfl; (· (first | (simp only [wipeD, List.set_cons_zero, List.set_cons_succ]; done) | (simp only [wipeD, List.set_cons_zero, List.set_cons_succ]; rfl))); (· (first | (simp only [rst, List.set_cons_zero, List.set_cons_succ, Option.getD_some, List.getElem?_cons_zero, List.getElem?_cons_succ]; done) | (simp only [rst, List.set_cons_zero, List.set_cons_succ, Option.getD_some, List.getElem?_cons_zero, List.getElem?_cons_succ]; rfl)))
  · trivial
  · exact small (k := 2) (by decide)
  · intro i _ K hK
    o_norm
    · exact hK
    · exact absurd rfl (by assumption)
  o_attr
  exact q _
/-! _law_otherwise -/
--I X19
def S__law_otherwise : VSp := fun ds Q _ => ∃ (l : List PyData) (n both : Nat) (ps : List (List Int)) (some : List Int) (rows : List (List Int)), Pot n l ∧ n < 2 ^ 35 ∧ both < 10 ∧ Pts ps ∧ ps.length ≤ 24 ∧ some.length ≤ 8 ∧ rows.length = some.length ∧ (∀ r ∈ rows, r.length ≤ 24) ∧ (∀ r ∈ rows, ∃ x ∈ r, x ∈ some) ∧ rows.flatten.Nodup ∧ spreadB ps some rows = true ∧ ds = [.ow l, .fr (.int (both : Nat)), .fr (pts ps), .fr (pt some), .fr (.tuple (rows.map fun r => xt (r.map .int)))] ∧ ∀ l' (so : List Int) (rs : List (List Int)) ds', Pot (n + 10) l' → ds'[0]? = Option.some (.ow l') → so.length ≤ 60 → rs.length ≤ 100 → (∀ r ∈ rs, r.length ≤ 200) → Q (.fr (.tuple [pt so, pts rs])) ds'
theorem len__law_otherwise : ∀ ds Q E, S__law_otherwise ds Q E → ds.length = 5 := by rintro _ _ _ ⟨_, _, _, _, _, _, _, _, _, _, _, _, _, _, _, _, _, rfl, _⟩; rfl
abbrev N__law_otherwise : List Str := ["pool", "both", "points", "some", "rows", "number"]
def t__law_otherwise : DTS := (cSeq (cIfS (cTst (c2 (gEq false) (cVar 1) (cK (.fr (.int 3))))) (cRet (cFrz (cCall [0] S__law_crossed (cCons (cVar 0) (cCons (cVar 2) (cCons (cVar 3) (cCons (cVar 4) cNil))))))) cNext) (cSeq (cIfS (cTst (c2 (gEq false) (cVar 1) (cK (.fr (.int 4))))) (cRet (cFrz (cCall [0] S__law_twice (cCons (cVar 0) (cCons (cVar 3) (cCons (cVarP 4) cNil)))))) cNext) (cSeq (cIfS (cTst (c2 (gIn false) (cVar 1) (cTup (cCons (cK (.fr (.int 5))) (cCons (cK (.fr (.int 6))) cNil))))) (cRet (cTup (cCons (cVar 3) (cCons (cFrz (cCall [0] S__law_doubled (cCons (cVar 0) (cCons (cVar 2) (cCons (cVarP 4) cNil))))) cNil)))) cNext) (cSeq (cIfS (cTst (c2 (gEq false) (cVar 1) (cK (.fr (.int 7))))) (cRet (cTup (cCons (cVar 3) (cCons (cFrz (cCall [0] S__law_in_place (cCons (cVar 0) (cCons (cVar 2) (cCons (cVarP 4) cNil))))) cNil)))) cNext) (cSeq (cIfS (cTst (c2 (gEq false) (cVar 1) (cK (.fr (.int 8))))) (cRet (cTup (cCons (cFrz (cCall [0] S__law_beside (cCons (cVar 0) (cCons (cVar 3) (cCons (cVar 4) cNil))))) (cCons (cVarP 4) cNil)))) cNext) (cSeq (cIfS (cTst (c2 (gEq false) (cVar 1) (cK (.fr (.int 9))))) (cRet (cTup (cCons (cFn (g1 gTpl) (cCons (cLc [] [5] (cSeqI (cVar 3)) (gNm 5) cYes (c2 kSub (cVar 5) (cFn (g1 gLen) (cCons (cVar 2) cNil)))) cNil)) (cCons (cVarP 4) cNil)))) cNext) (cRet (cTup (cCons (cVar 3) (cCons (cVarP 4) cNil))))))))))
theorem spread_in {ps : List (List Int)} {some : List Int} {rows : List (List Int)} (h : spreadB ps some rows = true) : (∀ x ∈ some, 0 ≤ x ∧ x.toNat < ps.length) ∧ ∀ r ∈ rows, r ≠ [] ∧ ∀ x ∈ r, 0 ≤ x ∧ x.toNat < ps.length := by
  unfold spreadB at h
  simp only [Bool.and_eq_true, rises_eq, decide_eq_true_eq, List.all_eq_true, rowOk_eq, DL.inR] at h
  obtain ⟨⟨h1, _⟩, _, _, h2, _⟩ := h
  refine ⟨fun x hx => ?_, fun r hr => ⟨(h2 r hr).1, fun x hx => ?_⟩⟩
  · have := h1 x hx; omega
  · have := (h2 r hr).2.1 x hx; omega
theorem r__law_otherwise : ∀ ds Q0 E0, S__law_otherwise ds Q0 E0 → t__law_otherwise (dEnds Q0) (ds ++ List.replicate (N__law_otherwise.length - 5) .gone) := by
  rintro ds Q0 E0 ⟨l, n, both, ps, some, rows, hP, hn, hb, hps, hpl, hs, hr, hrl, hm, hnd, hsp, rfl, q⟩
  obtain ⟨hin1, hin2⟩ := spread_in hsp
  have hro : ∀ r ∈ rows, r.length ≤ 24 ∧ r ≠ [] ∧ ∀ x ∈ r, 0 ≤ x ∧ x.toNat < ps.length := fun r h => ⟨hrl r h, hin2 r h⟩
  have hr2 : ∀ r ∈ rows, r.length ≤ 200 := fun r h => Nat.le_trans (hrl r h) (by decide)
  have hpm : (List.map pt ps).length = ps.length := List.length_map _
  simp only [N__law_otherwise, List.length_cons, List.length_nil, List.cons_append, List.nil_append, Nat.reduceAdd, Nat.reduceSub, Nat.zero_add, List.replicate_succ, List.replicate_zero]; unfold t__law_otherwise
  o_attr
  · refine ⟨l, n, ps, some, rows, hP, by omega, hps, hin1, hs, by omega, hrl, hm, rfl, fun l' so rs ds1 hP e1 h1 h2 h3 => ?_⟩
    ((with_reducible apply s_up); (· (first | (simp only [upds, List.set_cons_zero, List.set_cons_succ, Option.getD_some, e1]; done) | (simp only [upds, List.set_cons_zero, List.set_cons_succ, Option.getD_some, e1]; rfl))))
    o_attr
    exact q _ so rs [_, _, _, _, _, _] (hP.mono (by omega)) rfl h1 h2 h3
  · refine ⟨l, n, some, rows, hP, by omega, by omega, by omega, hrl, rfl, fun l' so rs ds1 hP e1 h1 h2 h3 => ?_⟩
    ((with_reducible apply s_up); (· (first | (simp only [upds, List.set_cons_zero, List.set_cons_succ, Option.getD_some, e1]; done) | (simp only [upds, List.set_cons_zero, List.set_cons_succ, Option.getD_some, e1]; rfl))))
    o_attr
    exact q _ so rs [_, _, _, _, _, _] (hP.mono (by omega)) rfl h1 h2 h3
  refine s_inT rfl rfl (by rfl) (by rfl) ?_
  simp only [List.any_cons, List.any_nil, Bool.or_false, eqv_int]
  by_cases h56 : both = 5 ∨ both = 6
  · rw [show (decide ((5 : Int) = (both : Nat)) || decide ((6 : Int) = (both : Nat))) = true by
      rw [Bool.or_eq_true, decide_eq_true_eq, decide_eq_true_eq]; omega]
    refine s_brEq (show true = true from rfl) ?_
    o_attr
    refine ⟨l, n, ps, rows, hP, by omega, hps, hpl, by omega, hro, rfl, fun l' rs ds1 hP e1 h2 h3 => ?_⟩
    ((with_reducible apply s_up); (· (first | (simp only [upds, List.set_cons_zero, List.set_cons_succ, Option.getD_some, e1]; done) | (simp only [upds, List.set_cons_zero, List.set_cons_succ, Option.getD_some, e1]; rfl))))
    o_attr
    exact q _ some rs [_, _, _, _, _, _] (hP.mono (by omega)) rfl (by omega) h2 h3
  rw [decide_eq_false (by omega), decide_eq_false (by omega)]
  refine s_brEq (show (false || false) = false from rfl) ?_
  o_attr
  · refine ⟨l, n, ps, rows, hP, by omega, hps, hpl, by omega, hro, rfl, fun l' rs ds1 hP e1 h2 h3 => ?_⟩
    ((with_reducible apply s_up); (· (first | (simp only [upds, List.set_cons_zero, List.set_cons_succ, Option.getD_some, e1]; done) | (simp only [upds, List.set_cons_zero, List.set_cons_succ, Option.getD_some, e1]; rfl))))
    o_attr
    exact q _ some rs [_, _, _, _, _, _] (hP.mono (by omega)) rfl (by omega) h2 h3
  · refine ⟨l, n, some, rows, hP, by omega, hs, by omega, hrl, hm, hnd, rfl, fun l' so ds1 hP e1 h1 => ?_⟩
    ((with_reducible apply s_up); (· (first | (simp only [upds, List.set_cons_zero, List.set_cons_succ, Option.getD_some, e1]; done) | (simp only [upds, List.set_cons_zero, List.set_cons_succ, Option.getD_some, e1]; rfl))))
    o_attr
    exact q _ so rows [_, _, _, _, _, _] (hP.mono (by omega)) rfl h1 (by omega) hr2
  · apply s_lcMap some .int (fun z => Option.some (.int (z - (ps.length : Nat)))) rfl; (· (first | (simp only [wipeD, List.set_cons_zero, List.set_cons_succ]; done) | (simp only [wipeD, List.set_cons_zero, List.set_cons_succ]; rfl))); (· (first | (simp only [rst, List.set_cons_zero, List.set_cons_succ, Option.getD_some, List.getElem?_cons_zero, List.getElem?_cons_succ]; done) | (simp only [rst, List.set_cons_zero, List.set_cons_succ, Option.getD_some, List.getElem?_cons_zero, List.getElem?_cons_succ]; rfl)))
    · trivial
    · exact small (k := 8) hs
    · intro z hz K3 hK3
      o_norm
      rw [hpm]
      exact hK3
    rw [fmap_some]
    o_attr
    rw [show (some.map fun z => PyData.int (z - (ps.length : Nat))) = (some.map fun z => z - (ps.length : Int)).map .int by rw [List.map_map]; rfl]
    exact q _ (some.map fun z => z - (ps.length : Int)) rows [_, _, _, _, _, _] (hP.mono (by omega)) rfl (by rw [List.length_map]; omega) (by omega) hr2
  · exact q _ some rows [_, _, _, _, _, _] (hP.mono (by omega)) rfl (by omega) (by omega) hr2
/-! law -/
--I X19
abbrev S_law : VSp := lawS 63
abbrev N_law : List Str := ["script", "cell", "pool", "ways", "book", "some", "rows", "at", "both", "way", "other", "numbers", "kept", "k"]
def t_law : DTS := (cSeq (cFor [] (cSeqI (c2 gAdd (cLst (cCons (cK (.fr (.int 0))) cNil)) (cCall [] S__law_folded (cCons (cVar 0) (cCons (cK (.fr (.int 8))) cNil))))) (gNm 1) (cSeq (cAsg (cCall [] S__law_pool (cCons (cVar 1) cNil)) (gNm 2)) (cSeq (cAsg (cFrz (cLc [] [13] (cRng1 (cCons (cK (.fr (.int 6))) cNil)) (gNm 13) cYes (cTup (cCons (cFrz (cCall [0] S__law_next (cCons (cVar 2) (cCons (cK (.fr (.int 10))) cNil)))) (cCons (cFrz (cCall [0] S__law_next (cCons (cVar 2) (cCons (cK (.fr (.int 6))) cNil)))) (cCons (cFrz (cCall [0] S__law_next (cCons (cVar 2) (cCons (cK (.fr (.int 15))) cNil)))) cNil)))))) (gNm 3)) (cSeq (cAsg (cFrz (cCall [0] S__law_made (cCons (cVar 2) (cCons (cFrz (c2 gAdd (cK (.fr (.int 1))) (cCall [0] S__law_next (cCons (cVar 2) (cCons (cK (.fr (.int 4))) cNil))))) cNil)))) (gTu 3 (gsCons (gNm 4) (gsCons (gNm 5) (gsCons (gNm 6) gsNil))))) (cSeq (cAsg (cFrz (cCall [0] S__law_next (cCons (cVar 2) (cCons (c2 gAdd (cFn (g1 gLen) (cCons (cVarP 6) cNil)) (cK (.fr (.int 1)))) cNil)))) (gNm 7)) (cSeq (cIfS (cOr (cNot (cTst (cCall [] S__law_is_spread (cCons (c2 gIx (cVar 4) (cK (.fr (.int 1)))) (cCons (cVar 5) (cCons (cVarP 6) cNil)))))) (cNot (cTst (cCall [] S__law_right (cCons (cVar 4) (cCons (cVar 5) (cCons (cVarP 6) cNil))))))) (cRet (cK (.fr (.bool false)))) cNext) (cSeq (cIfS (cNot (cTst (cCall [] S__law_right (cCons (cVar 4) (cCons (cVar 5) (cCons (cFrz (c2 gAdd (cSl (cVarP 6) (cPt (cVar 7)) cNoP) (cSl (cVarP 6) cNoP (cPt (cVar 7))))) cNil)))))) (cRet (cK (.fr (.bool false)))) cNext) (cFor [] (cSeqI (cVar 3)) (gTu 3 (gsCons (gNm 8) (gsCons (gNm 9) (gsCons (gNm 10) gsNil)))) (cSeq (cAsg (cFrz (cCall [0] S__law_otherwise (cCons (cVar 2) (cCons (cVar 8) (cCons (c2 gIx (cVar 4) (cK (.fr (.int 1)))) (cCons (cVar 5) (cCons (cVar 6) cNil))))))) (gTu 2 (gsCons (gNm 11) (gsCons (gNm 12) gsNil)))) (cSeq (cIfS (cTst (c2 (gIn false) (cVar 8) (cTup (cCons (cK (.fr (.int 1))) (cCons (cK (.fr (.int 2))) cNil))))) (cAsg (cFrz (cCall [0] S__law_bent (cCons (cVar 2) (cCons (cVar 9) (cCons (cVar 5) (cCons (cFn (g1 gLen) (cCons (c2 gIx (cVar 4) (cK (.fr (.int 1)))) cNil)) cNil)))))) (gNm 11)) cNext) (cSeq (cIfS (cTst (c2 (gIn false) (cVar 8) (cTup (cCons (cK (.fr (.int 0))) (cCons (cK (.fr (.int 2))) cNil))))) (cAsg (cFrz (cCall [0] S__law_rows_bent (cCons (cVar 2) (cCons (cVar 10) (cCons (cVarP 6) (cCons (cFn (g1 gLen) (cCons (c2 gIx (cVar 4) (cK (.fr (.int 1)))) cNil)) cNil)))))) (gNm 12)) cNext) (cIfS (cOr (cNot (cTst (cCall [] S__law_right (cCons (cVar 4) (cCons (cVar 11) (cCons (cVar 12) cNil)))))) (cNot (cTst (cCall [] S__law_right (cCons (cVar 4) (cCons (cVar 5) (cCons (cVarP 6) cNil))))))) (cRet (cK (.fr (.bool false)))) cNext)))))))))))) (cRet (cK (.fr (.bool true)))))
theorem cutL_len {α : Type} (l : List α) (lo hi : Option Int) : (cutG l lo hi).length ≤ l.length := by unfold cutG; rw [List.length_take, List.length_drop]; omega
theorem cutL_mem {α : Type} {l : List α} {lo hi : Option Int} {x : α} (h : x ∈ cutG l lo hi) : x ∈ l := by unfold cutG at h; exact List.mem_of_mem_drop (List.mem_of_mem_take h)
def encW (t : Int × Int × Int) : PyData := .tuple [.int t.1, .int t.2.1, .int t.2.2]
def okW (t : Int × Int × Int) : Prop := (0 ≤ t.1 ∧ t.1 < 10) ∧ (0 ≤ t.2.1 ∧ t.2.1 < 6) ∧ (0 ≤ t.2.2 ∧ t.2.2 < 15)
theorem r_law : ∀ ds Q0 E0, S_law ds Q0 E0 → t_law (dEnds Q0) (ds ++ List.replicate (N_law.length - 1) .gone) := by
  rintro ds Q0 E0 ⟨ns, hn, rfl, q⟩
  simp only [N_law, List.length_cons, List.length_nil, List.cons_append, List.nil_append, Nat.reduceAdd, Nat.reduceSub, Nat.zero_add, List.replicate_succ, List.replicate_zero]; unfold t_law
  o_attr
  refine ⟨ns, 8, hn, by omega, by omega, rfl, fun r ds' hr => ?_⟩
  have hrl : (List.map PyData.int r).length = r.length := List.length_map _
  o_attr
  refine s_forMap (0 :: r) PyData.int (fun l' st => ∃ d1 d2 d3 d4 d5 d6 d7 d8 d9 d10 d11 d12, st = [.scr ns, d1, d2, d3, d4, d5, d6, d7, d8, d9, d10, d11, d12, .gone]) rfl trivial ⟨_, _, _, _, _, _, _, _, _, _, _, _, rfl⟩ ?_ ?_
  · rintro cell l' st ⟨d1, d2, d3, d4, d5, d6, d7, d8, d9, d10, d11, d12, rfl⟩ K hK
    o_norm
    refine ⟨cell, rfl, fun l ds' hP => ?_⟩
    o_norm
    refine s_rng1K (by decide) (by decide) ?_
    o_attr
    apply s_lcDraw 2 (List.range 6) (fun (i : Nat) => .int (i : Int)) encW Pot okW 3 (rngN 6); (· intro L; (first | (simp only [wipeD, List.set_cons_zero, List.set_cons_succ]; done) | (simp only [wipeD, List.set_cons_zero, List.set_cons_succ]; rfl))); (· (first | (simp only [wipeD, List.set_cons_zero, List.set_cons_succ, List.getElem?_cons_zero, List.getElem?_cons_succ]; done) | (simp only [wipeD, List.set_cons_zero, List.set_cons_succ, List.getElem?_cons_zero, List.getElem?_cons_succ]; rfl))); (· intro L; first | trivial | rfl | exact ⟨rfl, rfl⟩)
    · exact small (k := 10) (by decide)
    · exact hP
    · intro i _ c L hP hc K hK
      rw [List.length_range] at hc
      o_norm
      refine ⟨_, _, _, hP, by omega, by omega, by omega, rfl, fun l w1 ds1 hP h0w1 h1w1 e1 => ?_⟩; ((with_reducible apply s_up); (· (first | (simp only [upds, List.set_cons_zero, List.set_cons_succ, Option.getD_some, e1]; done) | (simp only [upds, List.set_cons_zero, List.set_cons_succ, Option.getD_some, e1]; rfl)))); o_attr
      refine ⟨_, _, _, hP, by omega, by omega, by omega, rfl, fun l w2 ds1 hP h0w2 h1w2 e1 => ?_⟩; ((with_reducible apply s_up); (· (first | (simp only [upds, List.set_cons_zero, List.set_cons_succ, Option.getD_some, e1]; done) | (simp only [upds, List.set_cons_zero, List.set_cons_succ, Option.getD_some, e1]; rfl)))); o_attr
      refine ⟨_, _, _, hP, by omega, by omega, by omega, rfl, fun l w3 ds1 hP h0w3 h1w3 e1 => ?_⟩; ((with_reducible apply s_up); (· (first | (simp only [upds, List.set_cons_zero, List.set_cons_succ, Option.getD_some, e1]; done) | (simp only [upds, List.set_cons_zero, List.set_cons_succ, Option.getD_some, e1]; rfl)))); o_attr
      exact hK _ (w1, w2, w3) hP ⟨⟨h0w1, h1w1⟩, ⟨h0w2, h1w2⟩, ⟨h0w3, h1w3⟩⟩
    intro l ws hP hws hwb
    rw [List.length_range] at hP
    o_norm
    refine ⟨_, _, _, hP, by omega, by omega, by omega, rfl, fun l mm ds1 hP h0mm h1mm e1 => ?_⟩; ((with_reducible apply s_up); (· (first | (simp only [upds, List.set_cons_zero, List.set_cons_succ, Option.getD_some, e1]; done) | (simp only [upds, List.set_cons_zero, List.set_cons_succ, Option.getD_some, e1]; rfl)))); o_attr
    obtain ⟨m, em, hm1, hm4⟩ : ∃ m : Nat, 1 + mm = (m : Int) ∧ 1 ≤ m ∧ m ≤ 4 := ⟨(1 + mm).toNat, by omega, by omega, by omega⟩
    rw [em]
    o_norm
    refine ⟨_, _, m, hP, by omega, hm1, hm4, rfl, fun l ps some rows ds1 hP e1 hps hpl hs hr hrl2 hm hnd hsp => ?_⟩
    ((with_reducible apply s_up); (· (first | (simp only [upds, List.set_cons_zero, List.set_cons_succ, Option.getD_some, e1]; done) | (simp only [upds, List.set_cons_zero, List.set_cons_succ, Option.getD_some, e1]; rfl))))
    have hrm : (List.map pt rows).length = rows.length := List.length_map _
    have hr2 : ∀ r ∈ rows, r.length ≤ 200 := fun r h => Nat.le_trans (hrl2 r h) (by decide)
    have hpm : (List.map pt ps).length = ps.length := List.length_map _
    o_norm
    refine ⟨_, _, _, hP, by omega, by omega, by omega, rfl, fun l a ds1 hP h0a h1a e1 => ?_⟩; ((with_reducible apply s_up); (· (first | (simp only [upds, List.set_cons_zero, List.set_cons_succ, Option.getD_some, e1]; done) | (simp only [upds, List.set_cons_zero, List.set_cons_succ, Option.getD_some, e1]; rfl)))); o_attr
    o_norm
    refine ⟨ps, some, rows, hps, by omega, by omega, hr2, rfl, fun ds' => ?_⟩
    rw [hsp]
    o_attr
    refine ⟨m, ps, some, rows, hps, by omega, by omega, hr2, rfl, fun ds' => ?_⟩
    o_attr
    rw [cut_map, cut_map]
    have c1 := cutL_len rows (Option.some a) none
    have c2 := cutL_len rows none (Option.some a)
    refine s_addT rfl rfl (by rw [List.length_map, List.length_map]; exact small (k := 16) (by omega)) ?_
    rw [← List.map_append]
    o_attr
    refine ⟨m, ps, some, cutG rows (Option.some a) none ++ cutG rows none (Option.some a), hps, by omega, ?_, ?_, rfl, fun ds' => ?_⟩
    · rw [List.length_append]
      have h1 := cutL_len rows (Option.some a) none
      have h2 := cutL_len rows none (Option.some a)
      omega
    · intro r h
      rcases List.mem_append.mp h with h | h
      · exact hr2 r (cutL_mem h)
      · exact hr2 r (cutL_mem h)
    o_attr
    refine s_forMap ws encW (fun l2 st => ∃ (l : List PyData) (c : Nat) (d8 d9 d10 d11 d12 : Vl), (∀ w ∈ l2, w ∈ ws) ∧ Pot c l ∧ c + 100 * l2.length ≤ 10000 ∧ st = [.scr ns, .fr (.int cell), .ow l, .fr (.list (ws.map encW)), .fr (.tuple [.int (m : Nat), pts ps]), .fr (pt some), .fr (.tuple (rows.map fun r => xt (r.map .int))), .fr (.int a), d8, d9, d10, d11, d12, .gone]) rfl trivial ⟨l, _, _, _, _, _, _, fun _ h => h, hP, by rw [hws, List.length_range]; omega, rfl⟩ ?_ ?_
    · rintro ⟨b, w, o⟩ l2 st ⟨l, c, d8, d9, d10, d11, d12, hwm, hP, hc, rfl⟩ K2 hK2
      rw [List.length_cons] at hc
      obtain ⟨⟨b0, b1⟩, ⟨w0, w1⟩, ⟨o0, o1⟩⟩ := hwb _ (hwm _ List.mem_cons_self)
      dsimp only at b0 b1 w0 w1 o0 o1
      obtain ⟨b, rfl⟩ := Int.eq_ofNat_of_zero_le b0
      rw [show encW ((b : Int), w, o) = .tuple [.int (b : Nat), .int w, .int o] from rfl]
      o_norm
      refine ⟨l, c, b, ps, some, rows, hP, by omega, by omega, hps, hpl, hs, hr, hrl2, hm, hnd, hsp, rfl, fun l so rs ds1 hP e1 h1 h2 h3 => ?_⟩
      ((with_reducible apply s_up); (· (first | (simp only [upds, List.set_cons_zero, List.set_cons_succ, Option.getD_some, e1]; done) | (simp only [upds, List.set_cons_zero, List.set_cons_succ, Option.getD_some, e1]; rfl))))
      o_attr
      o_args
      with_reducible refine s_gsc ?_
      o_args
      try with_reducible refine s_gsn ?_
      with_reducible refine s_seqCut (fun st => ∃ (l : List PyData) (c2 : Nat) (so : List Int), Pot c2 l ∧ c2 ≤ c + 20 ∧ so.length ≤ 60 ∧ st = [.scr ns, .fr (.int cell), .ow l, .fr (.list (ws.map encW)), .fr (.tuple [.int (m : Nat), pts ps]), .fr (pt some), .fr (.tuple (rows.map fun r => xt (r.map .int))), .fr (.int a), .fr (.int (b : Nat)), .fr (.int w), .fr (.int o), .fr (pt so), .fr (pts rs), .gone]) (fun K5 hK5 => ?_) ?_
      · o_attr
        refine s_inT rfl rfl (by rfl) (by rfl) ?_
        simp only [List.any_cons, List.any_nil, Bool.or_false, eqv_int]
        by_cases h56 : b = 1 ∨ b = 2
        · rw [show (decide ((1 : Int) = (b : Nat)) || decide ((2 : Int) = (b : Nat))) = true by
            rw [Bool.or_eq_true, decide_eq_true_eq, decide_eq_true_eq]; omega]
          refine s_brEq (show true = true from rfl) ?_
          o_attr
          rw [hpm]
          refine ⟨l, _, ps.length, w, some, hP, by omega, w0, by omega, hpl, by omega, rfl, fun l zs ds1 hP e1 hz => ?_⟩
          ((with_reducible apply s_up); (· (first | (simp only [upds, List.set_cons_zero, List.set_cons_succ, Option.getD_some, e1]; done) | (simp only [upds, List.set_cons_zero, List.set_cons_succ, Option.getD_some, e1]; rfl))))
          o_attr
          o_args
          exact hK5 _ ⟨l, _, zs, hP, by omega, by omega, rfl⟩
        · rw [decide_eq_false (by omega), decide_eq_false (by omega)]
          refine s_brEq (show (false || false) = false from rfl) ?_
          o_attr
          exact hK5 _ ⟨l, _, so, hP, by omega, h1, rfl⟩
      rintro st ⟨l, c2, so, hP, hc2, hso, rfl⟩
      with_reducible refine s_seqCut (fun st => ∃ (l : List PyData) (c3 : Nat) (rs : List (List Int)), Pot c3 l ∧ c3 ≤ c + 40 ∧ rs.length ≤ 100 ∧ (∀ r ∈ rs, r.length ≤ 200) ∧ st = [.scr ns, .fr (.int cell), .ow l, .fr (.list (ws.map encW)), .fr (.tuple [.int (m : Nat), pts ps]), .fr (pt some), .fr (.tuple (rows.map fun r => xt (r.map .int))), .fr (.int a), .fr (.int (b : Nat)), .fr (.int w), .fr (.int o), .fr (pt so), .fr (pts rs), .gone]) (fun K5 hK5 => ?_) ?_
      · o_attr
        refine s_inT rfl rfl (by rfl) (by rfl) ?_
        simp only [List.any_cons, List.any_nil, Bool.or_false, eqv_int]
        by_cases h56 : b = 0 ∨ b = 2
        · rw [show (decide ((0 : Int) = (b : Nat)) || decide ((2 : Int) = (b : Nat))) = true by
            rw [Bool.or_eq_true, decide_eq_true_eq, decide_eq_true_eq]; omega]
          refine s_brEq (show true = true from rfl) ?_
          o_attr
          rw [hpm]
          refine ⟨l, _, ps.length, o, rows, hP, by omega, o0, o1, hpl, by omega, hrl2, rfl, fun l d ds1 hP e1 ⟨rs, hd, h4, h5⟩ => ?_⟩
          subst hd
          ((with_reducible apply s_up); (· (first | (simp only [upds, List.set_cons_zero, List.set_cons_succ, Option.getD_some, e1]; done) | (simp only [upds, List.set_cons_zero, List.set_cons_succ, Option.getD_some, e1]; rfl))))
          o_attr
          o_args
          exact hK5 _ ⟨l, _, rs, hP, by omega, h4, h5, rfl⟩
        · rw [decide_eq_false (by omega), decide_eq_false (by omega)]
          refine s_brEq (show (false || false) = false from rfl) ?_
          o_attr
          exact hK5 _ ⟨l, _, rs, hP, by omega, h2, h3, rfl⟩
      rintro st ⟨l, c3, rs, hP, hc3, h4, h5, rfl⟩
      o_attr
      refine ⟨m, ps, so, rs, hps, by omega, by omega, h5, rfl, fun ds' => ?_⟩
      o_attr
      refine ⟨m, ps, some, rows, hps, by omega, by omega, hr2, rfl, fun ds' => ?_⟩
      o_attr
      exact hK2 _ ⟨l, _, _, _, _, _, _, fun w hw => hwm w (List.mem_cons_of_mem _ hw), hP, by omega, rfl⟩ trivial
    · rintro st ⟨l, c, d8, d9, d10, d11, d12, hwm, hP, hc, rfl⟩
      o_attr
      exact hK _ ⟨_, _, _, _, _, _, _, _, _, _, _, _, rfl⟩ trivial
  · rintro st ⟨d1, d2, d3, d4, d5, d6, d7, d8, d9, d10, d11, d12, rfl⟩
    o_attr
    exact q _
-- is_whole: N = ['thing'], lk = []
theorem sc_is_whole : FnScope N_is_whole ["thing"] (defScope s_is_whole) := ⟨rfl, rfl, rfl, by decide +kernel, rfl, by decide +kernel, by decide +kernel⟩
theorem b_is_whole {P : Program} {w : World} {K : PySem.W.Frag} {mg : Str → Option Value} {base : Heap} {f : Addr} {cdv : Value} {A : Around} {outer : List Env} {s : Shared} {H : Hp} {E : XK} {B : Ba} (m_isinstance : mg "isinstance" = none) (m_int : mg "int" = none) (m_bool : mg "bool" = none)
    (hr : Room 0 (A.deeper (envOfC "is_whole" (defScope s_is_whole) s.heap.objs.size f cdv))) (hgd : A.guards = some []) : DSs (cxOf CX0 P w K mg base N_is_whole "is_whole" (defScope s_is_whole) f cdv A outer s H E) B [] (defBody s_is_whole) t_is_whole :=
  have hu : A.units + 3 + 100 < cLine := un0 hr
  have hN := sc_is_whole.nd
  dss_nox (dss_one (ds_ret (de_frz (de_and (de_isD is_int rfl m_isinstance (da_cons (de_var 0) (da_cons (de_ty rfl m_int (by decide +kernel)) da_nil))) (de_one (de_not (de_isD is_bool rfl m_isinstance (da_cons (de_var 0) (da_cons (de_ty rfl m_bool (by decide +kernel)) da_nil)))))))))

-- is_within: N = ['thing', 'low', 'high'], lk = []
theorem sc_is_within : FnScope N_is_within ["thing", "low", "high"] (defScope s_is_within) := ⟨rfl, rfl, rfl, by decide +kernel, rfl, by decide +kernel, by decide +kernel⟩
theorem b_is_within {P : Program} {w : World} {K : PySem.W.Frag} {mg : Str → Option Value} {base : Heap} {f : Addr} {cdv : Value} {A : Around} {outer : List Env} {s : Shared} {H : Hp} {E : XK} {B : Ba} (d_is_whole : Def P w K mg base CX0 1 "is_whole" [] 1 S_is_whole)
    (hr : Room 1 (A.deeper (envOfC "is_within" (defScope s_is_within) s.heap.objs.size f cdv))) (hgd : A.guards = some []) : DSs (cxOf CX0 P w K mg base N_is_within "is_within" (defScope s_is_within) f cdv A outer s H E) B [] (defBody s_is_within) t_is_within :=
  have hu : A.units + 3 + 100 < cLine := un0 hr
  have hN := sc_is_within.nd
  dss_nox (dss_one (ds_ret (de_frz (de_and (de_call d_is_whole len_is_whole hr hgd (by decide) rfl (da_cons (de_var 0) da_nil)) (de_one (de_ch (p := kleb) (q := kleb) op_le op_le (de_var 1) (de_var 0) (de_var 2)))))))

-- is_over: N = ['one', 'other', 'here', 'there'], lk = []
theorem sc_is_over : FnScope N_is_over ["one", "other"] (defScope s_is_over) := ⟨rfl, rfl, rfl, by decide +kernel, rfl, by decide +kernel, by decide +kernel⟩
theorem b_is_over {P : Program} {w : World} {K : PySem.W.Frag} {mg : Str → Option Value} {base : Heap} {f : Addr} {cdv : Value} {A : Around} {outer : List Env} {s : Shared} {H : Hp} {E : XK} {B : Ba} (m_all : mg "all" = none) (m_zip : mg "zip" = none)
    (hr : Room 0 (A.deeper (envOfC "is_over" (defScope s_is_over) s.heap.objs.size f cdv))) (hgd : A.guards = some []) : DSs (cxOf CX0 P w K mg base N_is_over "is_over" (defScope s_is_over) f cdv A outer s H E) B [] (defBody s_is_over) t_is_over :=
  have hu : A.units + 3 + 100 < cLine := un0 hr
  have hN := sc_is_over.nd
  dss_nox (dss_one (ds_ret (de_all rfl rfl m_all (da_cons (de_lc [] rfl hN (di_zip2 rfl m_zip (da_cons (de_var 0) (da_cons (de_var 1) da_nil))) (own := [("here", 2), ("there", 3)]) (blk_ok (by kernel_rfl)) rfl rfl (fun _ _ _ _ _ => (dg_tup rfl (dgs_cons (dg_name 2 hN rfl rfl (by first | exact .inl rfl | exact .inr rfl)) (dgs_cons (dg_name 3 hN rfl rfl (by first | exact .inl rfl | exact .inr rfl)) dgs_nil)))) (fun _ _ _ _ _ => dts_nil) (fun _ _ _ _ _ => (de_ge (de_var 2) (de_var 3)))) da_nil))))

-- does_beat: N = ['one', 'other'], lk = []
theorem sc_does_beat : FnScope N_does_beat ["one", "other"] (defScope s_does_beat) := ⟨rfl, rfl, rfl, by decide +kernel, rfl, by decide +kernel, by decide +kernel⟩
theorem b_does_beat {P : Program} {w : World} {K : PySem.W.Frag} {mg : Str → Option Value} {base : Heap} {f : Addr} {cdv : Value} {A : Around} {outer : List Env} {s : Shared} {H : Hp} {E : XK} {B : Ba} (d_is_over : Def P w K mg base CX0 1 "is_over" [] 2 S_is_over)
    (hr : Room 1 (A.deeper (envOfC "does_beat" (defScope s_does_beat) s.heap.objs.size f cdv))) (hgd : A.guards = some []) : DSs (cxOf CX0 P w K mg base N_does_beat "does_beat" (defScope s_does_beat) f cdv A outer s H E) B [] (defBody s_does_beat) t_does_beat :=
  have hu : A.units + 3 + 100 < cLine := un0 hr
  have hN := sc_does_beat.nd
  dss_nox (dss_one (ds_ret (de_frz (de_and (de_ne hu (de_var 0) (de_var 1)) (de_one (de_call d_is_over len_is_over hr hgd (by decide) rfl (da_cons (de_var 0) (da_cons (de_var 1) da_nil))))))))

-- is_rising: N = ['numbers', 'many', 'number', 'ahead', 'behind'], lk = []
theorem sc_is_rising : FnScope N_is_rising ["numbers", "many"] (defScope s_is_rising) := ⟨rfl, rfl, rfl, by decide +kernel, rfl, by decide +kernel, by decide +kernel⟩
theorem b_is_rising {P : Program} {w : World} {K : PySem.W.Frag} {mg : Str → Option Value} {base : Heap} {f : Addr} {cdv : Value} {A : Around} {outer : List Env} {s : Shared} {H : Hp} {E : XK} {B : Ba} (m_all : mg "all" = none) (d_is_within : Def P w K mg base CX0 2 "is_within" [] 3 S_is_within) (m_zip : mg "zip" = none)
    (hr : Room 2 (A.deeper (envOfC "is_rising" (defScope s_is_rising) s.heap.objs.size f cdv))) (hgd : A.guards = some []) : DSs (cxOf CX0 P w K mg base N_is_rising "is_rising" (defScope s_is_rising) f cdv A outer s H E) B [] (defBody s_is_rising) t_is_rising :=
  have hu : A.units + 3 + 100 < cLine := un0 hr
  have hN := sc_is_rising.nd
  dss_nox (dss_cons (ds_if (dc_not (dc_val (de_all rfl rfl m_all (da_cons (de_lc [] rfl hN (di_seq (de_var 0)) (own := [("number", 2)]) (blk_ok (by kernel_rfl)) rfl rfl (fun _ _ _ _ _ => (dg_name 2 hN rfl rfl (by first | exact .inl rfl | exact .inr rfl))) (fun _ _ _ _ _ => dts_nil) (fun _ _ _ _ _ => (de_frz (de_call d_is_within len_is_within hr hgd (by decide) rfl (da_cons (de_var 2) (da_cons de_int (da_cons (de_sub (de_var 1) de_int) da_nil))))))) da_nil)))) (dss_one (ds_ret de_bl)) dss_nil) (dss_one (ds_ret (de_all rfl rfl m_all (da_cons (de_lc [] rfl hN (di_zip2 rfl m_zip (da_cons (de_var 0) (da_cons (de_frz (de_slice (de_var 0) (do_at de_int) do_no)) da_nil))) (own := [("ahead", 3), ("behind", 4)]) (blk_ok (by kernel_rfl)) rfl rfl (fun _ _ _ _ _ => (dg_tup rfl (dgs_cons (dg_name 3 hN rfl rfl (by first | exact .inl rfl | exact .inr rfl)) (dgs_cons (dg_name 4 hN rfl rfl (by first | exact .inl rfl | exact .inr rfl)) dgs_nil)))) (fun _ _ _ _ _ => dts_nil) (fun _ _ _ _ _ => (de_lt (de_var 3) (de_var 4)))) da_nil)))))

-- is_row: N = ['book', 'thing', 'points', 'number', 'one', 'other'], lk = []
theorem sc_is_row : FnScope N_is_row ["book", "thing"] (defScope s_is_row) := ⟨rfl, rfl, rfl, by decide +kernel, rfl, by decide +kernel, by decide +kernel⟩
theorem b_is_row {P : Program} {w : World} {K : PySem.W.Frag} {mg : Str → Option Value} {base : Heap} {f : Addr} {cdv : Value} {A : Around} {outer : List Env} {s : Shared} {H : Hp} {E : XK} {B : Ba} (m_all : mg "all" = none) (d_is_within : Def P w K mg base CX0 2 "is_within" [] 3 S_is_within) (m_len : mg "len" = none) (m_zip : mg "zip" = none) (d_does_beat : Def P w K mg base CX0 2 "does_beat" [] 2 S_does_beat)
    (hr : Room 2 (A.deeper (envOfC "is_row" (defScope s_is_row) s.heap.objs.size f cdv))) (hgd : A.guards = some []) : DSs (cxOf CX0 P w K mg base N_is_row "is_row" (defScope s_is_row) f cdv A outer s H E) B [] (defBody s_is_row) t_is_row :=
  have hu : A.units + 3 + 100 < cLine := un0 hr
  have hN := sc_is_row.nd
  dss_nox (dss_cons (ds_set 2 hN rfl rfl (by first | exact .inl rfl | exact .inr rfl) (de_sub' (de_var 0) de_int)) (dss_cons (ds_if (dc_not (dc_val (de_all rfl rfl m_all (da_cons (de_lc [] rfl hN (di_seq (de_var 1)) (own := [("number", 3)]) (blk_ok (by kernel_rfl)) rfl rfl (fun _ _ _ _ _ => (dg_name 3 hN rfl rfl (by first | exact .inl rfl | exact .inr rfl))) (fun _ _ _ _ _ => dts_nil) (fun _ _ _ _ _ => (de_frz (de_call d_is_within len_is_within hr hgd (by decide) rfl (da_cons (de_var 3) (da_cons de_int (da_cons (de_sub (de_len rfl m_len (da_cons (de_var 2) da_nil)) de_int) da_nil))))))) da_nil)))) (dss_one (ds_ret de_bl)) dss_nil) (dss_one (ds_ret (de_all rfl rfl m_all (da_cons (de_lc [] rfl hN (di_zip2 rfl m_zip (da_cons (de_var 1) (da_cons (de_frz (de_slice (de_var 1) (do_at de_int) do_no)) da_nil))) (own := [("one", 4), ("other", 5)]) (blk_ok (by kernel_rfl)) rfl rfl (fun _ _ _ _ _ => (dg_tup rfl (dgs_cons (dg_name 4 hN rfl rfl (by first | exact .inl rfl | exact .inr rfl)) (dgs_cons (dg_name 5 hN rfl rfl (by first | exact .inl rfl | exact .inr rfl)) dgs_nil)))) (fun _ _ _ _ _ => dts_nil) (fun _ _ _ _ _ => (de_frz (de_call d_does_beat len_does_beat hr hgd (by decide) rfl (da_cons (de_sub' (de_var 2) (de_var 4)) (da_cons (de_sub' (de_var 2) (de_var 5)) da_nil)))))) da_nil))))))

-- are_apart: N = ['points', 'some', 'one', 'other'], lk = []
theorem sc_are_apart : FnScope N_are_apart ["points", "some"] (defScope s_are_apart) := ⟨rfl, rfl, rfl, by decide +kernel, rfl, by decide +kernel, by decide +kernel⟩
theorem b_are_apart {P : Program} {w : World} {K : PySem.W.Frag} {mg : Str → Option Value} {base : Heap} {f : Addr} {cdv : Value} {A : Around} {outer : List Env} {s : Shared} {H : Hp} {E : XK} {B : Ba} (m_any : mg "any" = none) (d_does_beat : Def P w K mg base CX0 2 "does_beat" [] 2 S_does_beat)
    (hr : Room 2 (A.deeper (envOfC "are_apart" (defScope s_are_apart) s.heap.objs.size f cdv))) (hgd : A.guards = some []) : DSs (cxOf CX0 P w K mg base N_are_apart "are_apart" (defScope s_are_apart) f cdv A outer s H E) B [] (defBody s_are_apart) t_are_apart :=
  have hu : A.units + 3 + 100 < cLine := un0 hr
  have hN := sc_are_apart.nd
  dss_nox (dss_one (ds_ret (de_not (de_any rfl rfl m_any (da_cons (de_lc [] rfl hN (di_seq (de_var 1)) (own := [("one", 2)]) (blk_ok (by kernel_rfl)) rfl rfl (fun _ _ _ _ _ => (dg_name 2 hN rfl rfl (by first | exact .inl rfl | exact .inr rfl))) (fun _ _ _ _ _ => dts_nil) (fun _ _ _ _ _ => (de_any rfl rfl m_any (da_cons (de_lc [] rfl hN (di_seq (de_var 1)) (own := [("other", 3)]) (blk_ok (by kernel_rfl)) rfl rfl (fun _ _ _ _ _ => (dg_name 3 hN rfl rfl (by first | exact .inl rfl | exact .inr rfl))) (fun _ _ _ _ _ => dts_nil) (fun _ _ _ _ _ => (de_frz (de_call d_does_beat len_does_beat hr hgd (by decide) rfl (da_cons (de_sub' (de_var 0) (de_var 2)) (da_cons (de_sub' (de_var 0) (de_var 3)) da_nil)))))) da_nil)))) da_nil)))))

-- spread_right: N = ['book', 'some', 'rows', 'points', 'numbers', 'row'], lk = []
theorem sc_spread_right : FnScope N_spread_right ["book", "some", "rows"] (defScope s_spread_right) := ⟨rfl, rfl, rfl, by decide +kernel, rfl, by decide +kernel, by decide +kernel⟩
theorem b_spread_right {P : Program} {w : World} {K : PySem.W.Frag} {mg : Str → Option Value} {base : Heap} {f : Addr} {cdv : Value} {A : Around} {outer : List Env} {s : Shared} {H : Hp} {E : XK} {B : Ba} (d_is_rising : Def P w K mg base CX0 3 "is_rising" [] 2 S_is_rising) (m_len : mg "len" = none) (d_are_apart : Def P w K mg base CX0 3 "are_apart" [] 2 S_are_apart) (m_all : mg "all" = none) (d_is_row : Def P w K mg base CX0 3 "is_row" [] 2 S_is_row) (m_sorted : mg "sorted" = none) (m_list : mg "list" = none) (m_range : mg "range" = none)
    (hr : Room 3 (A.deeper (envOfC "spread_right" (defScope s_spread_right) s.heap.objs.size f cdv))) (hgd : A.guards = some []) : DSs (cxOf CX0 P w K mg base N_spread_right "spread_right" (defScope s_spread_right) f cdv A outer s H E) B [] (defBody s_spread_right) t_spread_right :=
  have hu : A.units + 3 + 100 < cLine := un0 hr
  have hN := sc_spread_right.nd
  dss_nox (dss_cons (ds_set 3 hN rfl rfl (by first | exact .inl rfl | exact .inr rfl) (de_sub' (de_var 0) de_int)) (dss_cons (ds_if (PW.pt (dw_or (dc_not (dc_val (de_call d_is_rising len_is_rising hr hgd (by decide) rfl (da_cons (de_var 1) (da_cons (de_len rfl m_len (da_cons (de_var 3) da_nil)) da_nil))))) (dw_or (dc_ne hu (de_len rfl m_len (da_cons (de_var 2) da_nil)) (de_len rfl m_len (da_cons (de_var 1) da_nil))) (dw_or1 (dc_not (dc_val (de_call d_are_apart len_are_apart hr hgd (by decide) rfl (da_cons (de_var 3) (da_cons (de_var 1) da_nil))))))))) (dss_one (ds_ret de_bl)) dss_nil) (dss_cons (ds_if (dc_not (dc_val (de_all rfl rfl m_all (da_cons (de_lc [] rfl hN (di_seq (de_var 2)) (own := [("row", 5)]) (blk_ok (by kernel_rfl)) rfl rfl (fun _ _ _ _ _ => (dg_name 5 hN rfl rfl (by first | exact .inl rfl | exact .inr rfl))) (fun _ _ _ _ _ => dts_nil) (fun _ _ _ _ _ => (de_frz (de_and (de_ne hu (de_var 5) (de_tup da_nil)) (de_one (de_call d_is_row len_is_row hr hgd (by decide) rfl (da_cons (de_var 0) (da_cons (de_var 5) da_nil)))))))) da_nil)))) (dss_one (ds_ret de_bl)) dss_nil) (dss_cons (ds_set 4 hN rfl rfl (by first | exact .inl rfl | exact .inr rfl) (de_lst da_nil)) (dss_cons (ds_for [] .never rfl (di_seq (de_var 2)) (dg_name 5 hN rfl rfl (by first | exact .inl rfl | exact .inr rfl)) (dss_one (ds_expr (de_extendT (de_var 4) (da_cons (de_var 5) da_nil))))) (dss_one (ds_ret (de_eq hu (de_sorted hu rfl m_sorted (da_cons (de_var 4) da_nil)) (de_listR rfl rfl m_list (dr_1 rfl m_range (de_len rfl m_len (da_cons (de_var 3) da_nil))))))))))))

-- _law_pool: N = ['cell'], lk = []
theorem sc__law_pool : FnScope N__law_pool ["cell"] (defScope s__law_pool) := ⟨rfl, rfl, rfl, by decide +kernel, rfl, by decide +kernel, by decide +kernel⟩
theorem b__law_pool {P : Program} {w : World} {K : PySem.W.Frag} {mg : Str → Option Value} {base : Heap} {f : Addr} {cdv : Value} {A : Around} {outer : List Env} {s : Shared} {H : Hp} {E : XK} {B : Ba} (m_max : mg "max" = none)
    (hr : Room 0 (A.deeper (envOfC "_law_pool" (defScope s__law_pool) s.heap.objs.size f cdv))) (hgd : A.guards = some []) : DSs (cxOf CX0 P w K mg base N__law_pool "_law_pool" (defScope s__law_pool) f cdv A outer s H E) B [] (defBody s__law_pool) t__law_pool :=
  have hu : A.units + 3 + 100 < cLine := un0 hr
  have hN := sc__law_pool.nd
  dss_nox (dss_one (ds_ret (de_lst (da_cons (de_max2 rfl rfl m_max (da_cons de_int (da_cons (de_sub (de_var 0) (de_pow de_int de_int)) da_nil))) (da_cons (de_mod (de_var 0) de_int) (da_cons de_int da_nil))))))

-- _law_next: N = ['pool', 'base', 'digit', 'turn', 'near', 'stir'], lk = [0]
theorem sc__law_next : FnScope N__law_next ["pool", "base"] (defScope s__law_next) := ⟨rfl, rfl, rfl, by decide +kernel, rfl, by decide +kernel, by decide +kernel⟩
theorem b__law_next {P : Program} {w : World} {K : PySem.W.Frag} {mg : Str → Option Value} {base : Heap} {f : Addr} {cdv : Value} {A : Around} {outer : List Env} {s : Shared} {H : Hp} {E : XK} {B : Ba} 
    (hr : Room 0 (A.deeper (envOfC "_law_next" (defScope s__law_next) s.heap.objs.size f cdv))) (hgd : A.guards = some []) : DSs (cxOf CX0 P w K mg base N__law_next "_law_next" (defScope s__law_next) f cdv A outer s H E) B [0] (defBody s__law_next) t__law_next :=
  have hu : A.units + 3 + 100 < cLine := un0 hr
  have hN := sc__law_next.nd
  dss_nox (dss_cons (ds_if (dc_gt (de_sub' (de_var 0) de_int) de_int) (dss_cons (ds_set 2 hN rfl rfl (by first | exact .inl rfl | exact .inr rfl) (de_mod (de_sub' (de_var 0) de_int) (de_var 1))) (dss_cons (ds_asg (de_fdiv (de_sub' (de_var 0) de_int) (de_var 1)) (dg_sub (de_var 0) de_int)) (dss_one (ds_ret (de_var 2))))) dss_nil) (dss_cons (ds_set 3 hN rfl rfl (by first | exact .inl rfl | exact .inr rfl) (de_add (de_sub' (de_var 0) de_int) de_int)) (dss_cons (ds_asg (de_var 3) (dg_sub (de_var 0) de_int)) (dss_cons (ds_set 4 hN rfl rfl (by first | exact .inl rfl | exact .inr rfl) (de_mod (de_add (de_add (de_add (de_sub' (de_var 0) de_int) (de_mul (de_mul (de_mul de_int (de_var 3)) (de_var 3)) (de_var 3))) (de_mul de_int (de_var 3))) de_int) de_int)) (dss_cons (ds_set 5 hN rfl rfl (by first | exact .inl rfl | exact .inr rfl) (de_mod (de_mul (de_mod (de_mul (de_var 4) (de_var 4)) de_int) (de_var 4)) de_int)) (dss_one (ds_ret (de_mod (de_fdiv (de_mod (de_add (de_mul (de_var 5) de_int) (de_mul de_int (de_var 3))) de_int) de_int) (de_var 1)))))))))

-- _law_folded: N = ['script', 'most', 'cells', 'k'], lk = []
theorem sc__law_folded : FnScope N__law_folded ["script", "most"] (defScope s__law_folded) := ⟨rfl, rfl, rfl, by decide +kernel, rfl, by decide +kernel, by decide +kernel⟩
theorem b__law_folded {P : Program} {w : World} {K : PySem.W.Frag} {mg : Str → Option Value} {base : Heap} {f : Addr} {cdv : Value} {A : Around} {outer : List Env} {s : Shared} {H : Hp} {E : XK} {B : Ba} (m_range : mg "range" = none) (m_len : mg "len" = none) (m_min : mg "min" = none)
    (hr : Room 0 (A.deeper (envOfC "_law_folded" (defScope s__law_folded) s.heap.objs.size f cdv))) (hgd : A.guards = some []) : DSs (cxOf CX0 P w K mg base N__law_folded "_law_folded" (defScope s__law_folded) f cdv A outer s H E) B [] (defBody s__law_folded) t__law_folded :=
  have hu : A.units + 3 + 100 < cLine := un0 hr
  have hN := sc__law_folded.nd
  dss_nox (dss_cons (ds_set 2 hN rfl rfl (by first | exact .inl rfl | exact .inr rfl) (de_repA (de_lst (da_cons de_int da_nil)) (de_var 1))) (dss_cons (ds_for [] .never rfl (di_range1 rfl m_range (da_cons (de_len rfl m_len (da_cons (de_var 0) da_nil)) da_nil)) (dg_name 3 hN rfl rfl (by first | exact .inl rfl | exact .inr rfl)) (dss_one (ds_asg (de_add (de_mul (de_mod (de_sub' (de_var 2) (de_mod (de_var 3) (de_var 1))) (de_pow de_int de_int)) de_int) (de_sub' (de_var 0) (de_var 3))) (dg_sub (de_var 2) (de_mod (de_var 3) (de_var 1)))))) (dss_one (ds_ret (de_frz (de_slice (de_var 2) do_no (do_at (de_min2 rfl rfl m_min (da_cons (de_len rfl m_len (da_cons (de_var 0) da_nil)) (da_cons (de_var 1) da_nil))))))))))

-- _law_number: N = ['pool', 'size'], lk = [0]
theorem sc__law_number : FnScope N__law_number ["pool", "size"] (defScope s__law_number) := ⟨rfl, rfl, rfl, by decide +kernel, rfl, by decide +kernel, by decide +kernel⟩
theorem b__law_number {P : Program} {w : World} {K : PySem.W.Frag} {mg : Str → Option Value} {base : Heap} {f : Addr} {cdv : Value} {A : Around} {outer : List Env} {s : Shared} {H : Hp} {E : XK} {B : Ba} (d__law_next : Def P w K mg base CX0 1 "_law_next" [0] 2 S__law_next) (m_min : mg "min" = none)
    (hr : Room 1 (A.deeper (envOfC "_law_number" (defScope s__law_number) s.heap.objs.size f cdv))) (hgd : A.guards = some []) : DSs (cxOf CX0 P w K mg base N__law_number "_law_number" (defScope s__law_number) f cdv A outer s H E) B [0] (defBody s__law_number) t__law_number :=
  have hu : A.units + 3 + 100 < cLine := un0 hr
  have hN := sc__law_number.nd
  dss_nox (dss_cons (ds_if (dc_eq hu (de_var 1) de_int) (dss_one (ds_ret (de_frz (de_call d__law_next len__law_next hr hgd (by decide) rfl (da_cons (de_var 0) (da_cons de_int da_nil)))))) dss_nil) (dss_cons (ds_if (dc_eq hu (de_var 1) de_int) (dss_one (ds_ret (de_sub (de_call d__law_next len__law_next hr hgd (by decide) rfl (da_cons (de_var 0) (da_cons de_int da_nil))) de_int))) dss_nil) (dss_cons (ds_if (dc_eq hu (de_var 1) de_int) (dss_one (ds_ret (de_sub (de_mul de_int (de_call d__law_next len__law_next hr hgd (by decide) rfl (da_cons (de_var 0) (da_cons de_int da_nil)))) de_int))) dss_nil) (dss_cons (ds_if (dc_eq hu (de_var 1) de_int) (dss_one (ds_ret (de_min2 rfl rfl m_min (da_cons (de_pow de_int de_int) (da_cons (de_sub (de_add (de_mul (de_call d__law_next len__law_next hr hgd (by decide) rfl (da_cons (de_var 0) (da_cons de_int da_nil))) de_int) (de_call d__law_next len__law_next hr hgd (by decide) rfl (da_cons (de_var 0) (da_cons de_int da_nil)))) (de_pow de_int de_int)) da_nil))))) dss_nil) (dss_one (ds_ret (de_sub' (de_lst (da_cons (de_sub de_int (de_pow de_int de_int)) (da_cons (de_pow de_int de_int) (da_cons de_int (da_cons (de_sub (de_pow de_int de_int) de_int) da_nil))))) (de_call d__law_next len__law_next hr hgd (by decide) rfl (da_cons (de_var 0) (da_cons de_int da_nil))))))))))

-- _law_shaped: N = ['pool', 'shape', 'size', 'last', 'k', 'point', 'number'], lk = [0]
theorem sc__law_shaped : FnScope N__law_shaped ["pool", "shape", "size", "last", "k"] (defScope s__law_shaped) := ⟨rfl, rfl, rfl, by decide +kernel, rfl, by decide +kernel, by decide +kernel⟩
theorem b__law_shaped {P : Program} {w : World} {K : PySem.W.Frag} {mg : Str → Option Value} {base : Heap} {f : Addr} {cdv : Value} {A : Around} {outer : List Env} {s : Shared} {H : Hp} {E : XK} {B : Ba} (m_tuple : mg "tuple" = none) (d__law_number : Def P w K mg base CX0 2 "_law_number" [0] 2 S__law_number) (d__law_next : Def P w K mg base CX0 1 "_law_next" [0] 2 S__law_next) (m_max : mg "max" = none) (m_len : mg "len" = none)
    (hr : Room 2 (A.deeper (envOfC "_law_shaped" (defScope s__law_shaped) s.heap.objs.size f cdv))) (hgd : A.guards = some []) : DSs (cxOf CX0 P w K mg base N__law_shaped "_law_shaped" (defScope s__law_shaped) f cdv A outer s H E) B [0] (defBody s__law_shaped) t__law_shaped :=
  have hu : A.units + 3 + 100 < cLine := un0 hr
  have hN := sc__law_shaped.nd
  dss_nox (dss_cons (ds_set 5 hN rfl rfl (by first | exact .inl rfl | exact .inr rfl) (de_tuple rfl m_tuple (da_cons (de_lc [] rfl hN (di_seq (de_var 3)) (own := [("number", 6)]) (blk_ok (by kernel_rfl)) rfl rfl (fun _ _ _ _ _ => (dg_name 6 hN rfl rfl (by first | exact .inl rfl | exact .inr rfl))) (fun _ _ _ _ _ => dts_nil) (fun _ _ _ _ _ => (de_frz (de_call d__law_number len__law_number hr hgd (by decide) rfl (da_cons (de_var 0) (da_cons (de_var 2) da_nil)))))) da_nil))) (dss_cons (ds_if (PW.pt (dw_and (dc_eq hu (de_var 1) de_int) (dw_and (dc_gt (de_var 4) de_int) (dw_and1 (dc_eq hu (de_call d__law_next len__law_next hr hgd (by decide) rfl (da_cons (de_var 0) (da_cons de_int da_nil))) de_int))))) (dss_one (ds_ret (de_var 3))) dss_nil) (dss_cons (ds_if (PW.pt (dw_and (dc_eq hu (de_var 1) de_int) (dw_and1 (dc_gt (de_var 4) de_int)))) (dss_one (ds_ret (de_tuple rfl m_tuple (da_cons (de_lc [] rfl hN (di_seq (de_var 3)) (own := [("number", 6)]) (blk_ok (by kernel_rfl)) rfl rfl (fun _ _ _ _ _ => (dg_name 6 hN rfl rfl (by first | exact .inl rfl | exact .inr rfl))) (fun _ _ _ _ _ => dts_nil) (fun _ _ _ _ _ => (de_max2 rfl rfl m_max (da_cons (de_sub de_int (de_pow de_int de_int)) (da_cons (de_sub (de_var 6) (de_call d__law_next len__law_next hr hgd (by decide) rfl (da_cons (de_var 0) (da_cons de_int da_nil)))) da_nil))))) da_nil)))) dss_nil) (dss_cons (ds_if (PW.pt (dw_and (dc_eq hu (de_var 1) de_int) (dw_and1 (dc_gt (de_len rfl m_len (da_cons (de_var 3) da_nil)) de_int)))) (dss_one (ds_ret (de_frz (de_add (de_tup (da_cons (de_sub (de_mul de_int (de_var 4)) (de_call d__law_next len__law_next hr hgd (by decide) rfl (da_cons (de_var 0) (da_cons de_int da_nil)))) (da_cons (de_sub de_int (de_mul de_int (de_var 4))) da_nil))) (de_slice (de_var 5) (do_at de_int) do_no))))) dss_nil) (dss_one (ds_ret (de_var 5)))))))

-- _law_points: N = ['pool', 'measures', 'most', 'shape', 'size', 'many', 'last', 'found', 'k'], lk = [0]
theorem sc__law_points : FnScope N__law_points ["pool", "measures", "most"] (defScope s__law_points) := ⟨rfl, rfl, rfl, by decide +kernel, rfl, by decide +kernel, by decide +kernel⟩
theorem b__law_points {P : Program} {w : World} {K : PySem.W.Frag} {mg : Str → Option Value} {base : Heap} {f : Addr} {cdv : Value} {A : Around} {outer : List Env} {s : Shared} {H : Hp} {E : XK} {B : Ba} (d__law_next : Def P w K mg base CX0 1 "_law_next" [0] 2 S__law_next) (m_range : mg "range" = none) (d__law_shaped : Def P w K mg base CX0 3 "_law_shaped" [0] 5 S__law_shaped) (m_len : mg "len" = none) (m_tuple : mg "tuple" = none)
    (hr : Room 3 (A.deeper (envOfC "_law_points" (defScope s__law_points) s.heap.objs.size f cdv))) (hgd : A.guards = some []) : DSs (cxOf CX0 P w K mg base N__law_points "_law_points" (defScope s__law_points) f cdv A outer s H E) B [0] (defBody s__law_points) t__law_points :=
  have hu : A.units + 3 + 100 < cLine := un0 hr
  have hN := sc__law_points.nd
  dss_nox (dss_cons (ds_set 3 hN rfl rfl (by first | exact .inl rfl | exact .inr rfl) (de_frz (de_call d__law_next len__law_next hr hgd (by decide) rfl (da_cons (de_var 0) (da_cons de_int da_nil))))) (dss_cons (ds_set 4 hN rfl rfl (by first | exact .inl rfl | exact .inr rfl) (de_frz (de_call d__law_next len__law_next hr hgd (by decide) rfl (da_cons (de_var 0) (da_cons de_int da_nil))))) (dss_cons (ds_set 5 hN rfl rfl (by first | exact .inl rfl | exact .inr rfl) (de_sub' (de_lst (da_cons (de_frz (de_call d__law_next len__law_next hr hgd (by decide) rfl (da_cons (de_var 0) (da_cons (de_add (de_var 2) de_int) da_nil)))) (da_cons (de_var 2) (da_cons (de_frz (de_call d__law_next len__law_next hr hgd (by decide) rfl (da_cons (de_var 0) (da_cons de_int da_nil)))) da_nil)))) (de_call d__law_next len__law_next hr hgd (by decide) rfl (da_cons (de_var 0) (da_cons de_int da_nil))))) (dss_cons (ds_set 6 hN rfl rfl (by first | exact .inl rfl | exact .inr rfl) (de_repA (de_tup (da_cons de_int da_nil)) (de_var 1))) (dss_cons (ds_set 7 hN rfl rfl (by first | exact .inl rfl | exact .inr rfl) (de_lst da_nil)) (dss_cons (ds_for [] .never rfl (di_range1 rfl m_range (da_cons (de_var 5) da_nil)) (dg_name 8 hN rfl rfl (by first | exact .inl rfl | exact .inr rfl)) (dss_cons (ds_set 6 hN rfl rfl (by first | exact .inl rfl | exact .inr rfl) (de_frz (de_call d__law_shaped len__law_shaped hr hgd (by decide) rfl (da_cons (de_var 0) (da_cons (de_var 3) (da_cons (de_var 4) (da_cons (de_var 6) (da_cons (de_var 8) da_nil)))))))) (dss_one (ds_expr (de_insert (de_var 7) (da_cons (de_frz (de_call d__law_next len__law_next hr hgd (by decide) rfl (da_cons (de_var 0) (da_cons (de_add (de_len rfl m_len (da_cons (de_var 7) da_nil)) de_int) da_nil)))) (da_cons (de_var 6) da_nil))))))) (dss_one (ds_ret (de_tuple rfl m_tuple (da_cons (de_var 7) da_nil))))))))))

-- _law_over: N = ['one', 'other', 'here', 'there'], lk = []
theorem sc__law_over : FnScope N__law_over ["one", "other"] (defScope s__law_over) := ⟨rfl, rfl, rfl, by decide +kernel, rfl, by decide +kernel, by decide +kernel⟩
theorem b__law_over {P : Program} {w : World} {K : PySem.W.Frag} {mg : Str → Option Value} {base : Heap} {f : Addr} {cdv : Value} {A : Around} {outer : List Env} {s : Shared} {H : Hp} {E : XK} {B : Ba} (m_zip : mg "zip" = none)
    (hr : Room 0 (A.deeper (envOfC "_law_over" (defScope s__law_over) s.heap.objs.size f cdv))) (hgd : A.guards = some []) : DSs (cxOf CX0 P w K mg base N__law_over "_law_over" (defScope s__law_over) f cdv A outer s H E) B [] (defBody s__law_over) t__law_over :=
  have hu : A.units + 3 + 100 < cLine := un0 hr
  have hN := sc__law_over.nd
  dss_nox (dss_one (ds_ret (de_frz (de_and (de_ne hu (de_var 0) (de_var 1)) (de_one (de_eq hu (de_lc [] rfl hN (di_zip2 rfl m_zip (da_cons (de_var 0) (da_cons (de_var 1) da_nil))) (own := [("here", 2), ("there", 3)]) (blk_ok (by kernel_rfl)) rfl rfl (fun _ _ _ _ _ => (dg_tup rfl (dgs_cons (dg_name 2 hN rfl rfl (by first | exact .inl rfl | exact .inr rfl)) (dgs_cons (dg_name 3 hN rfl rfl (by first | exact .inl rfl | exact .inr rfl)) dgs_nil)))) (fun _ _ _ _ _ => (dts_one (dc_lt (de_var 2) (de_var 3)))) (fun _ _ _ _ _ => de_int)) (de_lst da_nil)))))))

-- _law_column: N = ['pool', 'base', 'many', 'found', 'k', 'step', 'alone', 'number', 'at', 'more'], lk = [0]
theorem sc__law_column : FnScope N__law_column ["pool", "base", "many"] (defScope s__law_column) := ⟨rfl, rfl, rfl, by decide +kernel, rfl, by decide +kernel, by decide +kernel⟩
theorem b__law_column {P : Program} {w : World} {K : PySem.W.Frag} {mg : Str → Option Value} {base : Heap} {f : Addr} {cdv : Value} {A : Around} {outer : List Env} {s : Shared} {H : Hp} {E : XK} {B : Ba} (m_range : mg "range" = none) (m_tuple : mg "tuple" = none) (d__law_next : Def P w K mg base CX0 1 "_law_next" [0] 2 S__law_next) (m_len : mg "len" = none) (m_max : mg "max" = none) (m_int : mg "int" = none) (m_zip : mg "zip" = none)
    (hr : Room 1 (A.deeper (envOfC "_law_column" (defScope s__law_column) s.heap.objs.size f cdv))) (hgd : A.guards = some []) : DSs (cxOf CX0 P w K mg base N__law_column "_law_column" (defScope s__law_column) f cdv A outer s H E) B [0] (defBody s__law_column) t__law_column :=
  have hu : A.units + 3 + 100 < cLine := un0 hr
  have hN := sc__law_column.nd
  dss_nox (dss_cons (ds_set 3 hN rfl rfl (by first | exact .inl rfl | exact .inr rfl) (de_lst (da_cons (de_var 1) da_nil))) (dss_cons (ds_for [] .never rfl (di_range1 rfl m_range (da_cons (de_var 2) da_nil)) (dg_name 4 hN rfl rfl (by first | exact .inl rfl | exact .inr rfl)) (dss_cons (ds_set 5 hN rfl rfl (by first | exact .inl rfl | exact .inr rfl) (de_tuple rfl m_tuple (da_cons (de_lc [] rfl hN (di_seq (de_var 1)) (own := [("number", 7)]) (blk_ok (by kernel_rfl)) rfl rfl (fun _ _ _ _ _ => (dg_name 7 hN rfl rfl (by first | exact .inl rfl | exact .inr rfl))) (fun _ _ _ _ _ => dts_nil) (fun _ _ _ _ _ => (de_frz (de_call d__law_next len__law_next hr hgd (by decide) rfl (da_cons (de_var 0) (da_cons de_int da_nil)))))) da_nil))) (dss_cons (ds_set 6 hN rfl rfl (by first | exact .inl rfl | exact .inr rfl) (de_frz (de_call d__law_next len__law_next hr hgd (by decide) rfl (da_cons (de_var 0) (da_cons (de_mul de_int (de_len rfl m_len (da_cons (de_var 1) da_nil))) da_nil))))) (dss_cons (ds_if (PW.pt (dw_or (dc_eq hu (de_maxA rfl rfl m_max (da_cons (de_var 5) da_nil)) de_int) (dw_or1 (dc_lt (de_var 6) (de_len rfl m_len (da_cons (de_var 1) da_nil)))))) (dss_one (ds_set 5 hN rfl rfl (by first | exact .inl rfl | exact .inr rfl) (de_tuple rfl m_tuple (da_cons (de_lc [] rfl hN (di_range1 rfl m_range (da_cons (de_len rfl m_len (da_cons (de_var 1) da_nil)) da_nil)) (own := [("at", 8)]) (blk_ok (by kernel_rfl)) rfl rfl (fun _ _ _ _ _ => (dg_name 8 hN rfl rfl (by first | exact .inl rfl | exact .inr rfl))) (fun _ _ _ _ _ => dts_nil) (fun _ _ _ _ _ => (de_mul (de_add de_int (de_sub' (de_var 5) (de_var 8))) (de_intF rfl m_int (da_cons (de_eq hu (de_var 8) (de_mod (de_var 6) (de_len rfl m_len (da_cons (de_var 1) da_nil)))) da_nil))))) da_nil)))) dss_nil) (dss_one (ds_if (dc_eq hu (de_call d__law_next len__law_next hr hgd (by decide) rfl (da_cons (de_var 0) (da_cons de_int da_nil))) de_int) (dss_one (ds_expr (de_insert (de_var 3) (da_cons de_int (da_cons (de_tuple rfl m_tuple (da_cons (de_lc [] rfl hN (di_zip2 rfl m_zip (da_cons (de_sub' (de_var 3) de_int) (da_cons (de_var 5) da_nil))) (own := [("number", 7), ("more", 9)]) (blk_ok (by kernel_rfl)) rfl rfl (fun _ _ _ _ _ => (dg_tup rfl (dgs_cons (dg_name 7 hN rfl rfl (by first | exact .inl rfl | exact .inr rfl)) (dgs_cons (dg_name 9 hN rfl rfl (by first | exact .inl rfl | exact .inr rfl)) dgs_nil)))) (fun _ _ _ _ _ => dts_nil) (fun _ _ _ _ _ => (de_add (de_var 7) (de_var 9)))) da_nil)) da_nil))))) (dss_one (ds_expr (de_append (de_var 3) (da_cons (de_tuple rfl m_tuple (da_cons (de_lc [] rfl hN (di_zip2 rfl m_zip (da_cons (de_sub' (de_var 3) (de_neg de_int)) (da_cons (de_var 5) da_nil))) (own := [("number", 7), ("more", 9)]) (blk_ok (by kernel_rfl)) rfl rfl (fun _ _ _ _ _ => (dg_tup rfl (dgs_cons (dg_name 7 hN rfl rfl (by first | exact .inl rfl | exact .inr rfl)) (dgs_cons (dg_name 9 hN rfl rfl (by first | exact .inl rfl | exact .inr rfl)) dgs_nil)))) (fun _ _ _ _ _ => dts_nil) (fun _ _ _ _ _ => (de_sub (de_var 7) (de_var 9)))) da_nil)) da_nil)))))))))) (dss_one (ds_ret (de_frz (de_var 3))))))

-- _law_columns: N = ['pool', 'measures', 'found', 'base', 'left', 'k', 'more', 'many', 'j'], lk = [0]
theorem sc__law_columns : FnScope N__law_columns ["pool", "measures"] (defScope s__law_columns) := ⟨rfl, rfl, rfl, by decide +kernel, rfl, by decide +kernel, by decide +kernel⟩
theorem b__law_columns {P : Program} {w : World} {K : PySem.W.Frag} {mg : Str → Option Value} {base : Heap} {f : Addr} {cdv : Value} {A : Around} {outer : List Env} {s : Shared} {H : Hp} {E : XK} {B : Ba} (m_range : mg "range" = none) (d__law_next : Def P w K mg base CX0 1 "_law_next" [0] 2 S__law_next) (m_tuple : mg "tuple" = none) (m_min : mg "min" = none) (d__law_column : Def P w K mg base CX0 2 "_law_column" [0] 3 S__law_column)
    (hr : Room 2 (A.deeper (envOfC "_law_columns" (defScope s__law_columns) s.heap.objs.size f cdv))) (hgd : A.guards = some []) : DSs (cxOf CX0 P w K mg base N__law_columns "_law_columns" (defScope s__law_columns) f cdv A outer s H E) B [0] (defBody s__law_columns) t__law_columns :=
  have hu : A.units + 3 + 100 < cLine := un0 hr
  have hN := sc__law_columns.nd
  dss_nox (dss_cons (ds_set 2 hN rfl rfl (by first | exact .inl rfl | exact .inr rfl) (de_lst da_nil)) (dss_cons (ds_set 3 hN rfl rfl (by first | exact .inl rfl | exact .inr rfl) (de_repA (de_tup (da_cons de_int da_nil)) (de_var 1))) (dss_cons (ds_set 4 hN rfl rfl (by first | exact .inl rfl | exact .inr rfl) de_int) (dss_cons (ds_for [] .never rfl (di_range1 rfl m_range (da_cons (de_frz (de_call d__law_next len__law_next hr hgd (by decide) rfl (da_cons (de_var 0) (da_cons de_int da_nil)))) da_nil)) (dg_name 5 hN rfl rfl (by first | exact .inl rfl | exact .inr rfl)) (dss_cons (ds_if (PW.pt (dw_and (dc_gt (de_var 1) de_int) (dw_and1 (PW.pt (dw_or (dc_eq hu (de_var 5) de_int) (dw_or1 (dc_gt (de_call d__law_next len__law_next hr hgd (by decide) rfl (da_cons (de_var 0) (da_cons de_int da_nil))) de_int))))))) (dss_cons (ds_set 6 hN rfl rfl (by first | exact .inl rfl | exact .inr rfl) (de_tuple rfl m_tuple (da_cons (de_lc [] rfl hN (di_range1 rfl m_range (da_cons (de_sub (de_var 1) de_int) da_nil)) (own := [("j", 8)]) (blk_ok (by kernel_rfl)) rfl rfl (fun _ _ _ _ _ => (dg_name 8 hN rfl rfl (by first | exact .inl rfl | exact .inr rfl))) (fun _ _ _ _ _ => dts_nil) (fun _ _ _ _ _ => (de_frz (de_call d__law_next len__law_next hr hgd (by decide) rfl (da_cons (de_var 0) (da_cons de_int da_nil)))))) da_nil))) (dss_one (ds_set 3 hN rfl rfl (by first | exact .inl rfl | exact .inr rfl) (de_add (de_tup (da_cons (de_frz (de_add (de_mul de_int (de_var 5)) (de_call d__law_next len__law_next hr hgd (by decide) rfl (da_cons (de_var 0) (da_cons de_int da_nil))))) (da_cons (de_sub de_int (de_mul de_int (de_var 5))) da_nil))) (de_var 6))))) dss_nil) (dss_cons (ds_set 7 hN rfl rfl (by first | exact .inl rfl | exact .inr rfl) (de_min2 rfl rfl m_min (da_cons (de_sub (de_var 4) de_int) (da_cons (de_frz (de_call d__law_next len__law_next hr hgd (by decide) rfl (da_cons (de_var 0) (da_cons (de_sub' (de_lst (da_cons de_int (da_cons de_int da_nil))) (de_call d__law_next len__law_next hr hgd (by decide) rfl (da_cons (de_var 0) (da_cons de_int da_nil)))) da_nil)))) da_nil)))) (dss_one (ds_if (dc_ge (de_var 7) de_int) (dss_cons (ds_expr (de_append (de_var 2) (da_cons (de_tup (da_cons (de_frz (de_call d__law_column len__law_column hr hgd (by decide) rfl (da_cons (de_var 0) (da_cons (de_var 3) (da_cons (de_var 7) da_nil))))) (da_cons (de_var 3) da_nil))) da_nil))) (dss_one (ds_set 4 hN rfl rfl (by first | exact .inl rfl | exact .inr rfl) (de_sub (de_sub (de_var 4) (de_var 7)) de_int)))) dss_nil))))) (dss_one (ds_ret (de_frz (de_var 2))))))))

-- _law_made: N = ['pool', 'measures', 'columns', 'places', 'k', 'column', 'j', 'points', 'rows', 'some', 'row'], lk = [0]
theorem sc__law_made : FnScope N__law_made ["pool", "measures"] (defScope s__law_made) := ⟨rfl, rfl, rfl, by decide +kernel, rfl, by decide +kernel, by decide +kernel⟩
theorem b__law_made {P : Program} {w : World} {K : PySem.W.Frag} {mg : Str → Option Value} {base : Heap} {f : Addr} {cdv : Value} {A : Around} {outer : List Env} {s : Shared} {H : Hp} {E : XK} {B : Ba} (d__law_columns : Def P w K mg base CX0 3 "_law_columns" [0] 2 S__law_columns) (m_enumerate : mg "enumerate" = none) (m_range : mg "range" = none) (m_len : mg "len" = none) (d__law_next : Def P w K mg base CX0 1 "_law_next" [0] 2 S__law_next) (m_tuple : mg "tuple" = none) (m_zip : mg "zip" = none) (m_sorted : mg "sorted" = none)
    (hr : Room 3 (A.deeper (envOfC "_law_made" (defScope s__law_made) s.heap.objs.size f cdv))) (hgd : A.guards = some []) : DSs (cxOf CX0 P w K mg base N__law_made "_law_made" (defScope s__law_made) f cdv A outer s H E) B [0] (defBody s__law_made) t__law_made :=
  have hu : A.units + 3 + 100 < cLine := un0 hr
  have hN := sc__law_made.nd
  dss_nox (dss_cons (ds_set 2 hN rfl rfl (by first | exact .inl rfl | exact .inr rfl) (de_frz (de_call d__law_columns len__law_columns hr hgd (by decide) rfl (da_cons (de_var 0) (da_cons (de_var 1) da_nil))))) (dss_cons (ds_set 3 hN rfl rfl (by first | exact .inl rfl | exact .inr rfl) (de_lst da_nil)) (dss_cons (ds_for [] .never rfl (di_enum rfl m_enumerate (da_cons (de_var 2) da_nil)) (dg_tup rfl (dgs_cons (dg_name 4 hN rfl rfl (by first | exact .inl rfl | exact .inr rfl)) (dgs_cons (dg_name 5 hN rfl rfl (by first | exact .inl rfl | exact .inr rfl)) dgs_nil))) (dss_one (ds_for [] .never rfl (di_range1 rfl m_range (da_cons (de_len rfl m_len (da_cons (de_sub' (de_var 5) de_int) da_nil)) da_nil)) (dg_name 6 hN rfl rfl (by first | exact .inl rfl | exact .inr rfl)) (dss_one (ds_expr (de_insert (de_var 3) (da_cons (de_frz (de_call d__law_next len__law_next hr hgd (by decide) rfl (da_cons (de_var 0) (da_cons (de_add (de_len rfl m_len (da_cons (de_var 3) da_nil)) de_int) da_nil)))) (da_cons (de_tup (da_cons (de_var 4) (da_cons (de_var 6) da_nil))) da_nil)))))))) (dss_cons (ds_set 7 hN rfl rfl (by first | exact .inl rfl | exact .inr rfl) (de_tuple rfl m_tuple (da_cons (de_lc [3] rfl hN (di_seq (de_var 3)) (own := [("k", 4), ("j", 6)]) (blk_ok (by kernel_rfl)) rfl rfl (fun _ _ _ _ _ => (dg_tup rfl (dgs_cons (dg_name 4 hN rfl rfl (by first | exact .inl rfl | exact .inr rfl)) (dgs_cons (dg_name 6 hN rfl rfl (by first | exact .inl rfl | exact .inr rfl)) dgs_nil)))) (fun _ _ _ _ _ => dts_nil) (fun _ _ _ _ _ => (de_sub' (de_sub' (de_sub' (de_var 2) (de_var 4)) de_int) (de_var 6)))) da_nil))) (dss_cons (ds_set 8 hN rfl rfl (by first | exact .inl rfl | exact .inr rfl) (de_lst da_nil)) (dss_cons (ds_for [] .never rfl (di_enum rfl m_enumerate (da_cons (de_var 2) da_nil)) (dg_tup rfl (dgs_cons (dg_name 4 hN rfl rfl (by first | exact .inl rfl | exact .inr rfl)) (dgs_cons (dg_name 5 hN rfl rfl (by first | exact .inl rfl | exact .inr rfl)) dgs_nil))) (dss_one (ds_expr (de_append (de_var 8) (da_cons (de_tupleE rfl m_tuple (da_cons (de_lc [] rfl hN (di_range1 rfl m_range (da_cons (de_len rfl m_len (da_cons (de_sub' (de_var 5) de_int) da_nil)) da_nil)) (own := [("j", 6)]) (blk_ok (by kernel_rfl)) rfl rfl (fun _ _ _ _ _ => (dg_name 6 hN rfl rfl (by first | exact .inl rfl | exact .inr rfl))) (fun _ _ _ _ _ => dts_nil) (fun _ _ _ _ _ => (de_frz (de_ixPt hu (de_var 3) (de_tup (da_cons (de_var 4) (da_cons (de_var 6) da_nil))))))) da_nil)) da_nil))))) (dss_cons (ds_setLc [8] 9 (fun _ _ _ h => le_frz h) rfl hN rfl rfl rfl rfl (di_zip2 rfl m_zip (da_cons (de_var 8) (da_cons (de_var 2) da_nil))) (own := [("row", 10), ("column", 5)]) (blk_ok (by kernel_rfl)) rfl rfl (fun _ _ _ _ _ => (dg_tup rfl (dgs_cons (dg_name 10 hN rfl rfl (by first | exact .inl rfl | exact .inr rfl)) (dgs_cons (dg_name 5 hN rfl rfl (by first | exact .inl rfl | exact .inr rfl)) dgs_nil)))) (fun _ _ _ _ _ => dts_nil) (fun _ _ _ _ _ => (de_sub' (de_varP 10) (de_ixPt hu (de_sub' (de_var 5) de_int) (de_sub' (de_var 5) de_int))))) (dss_one (ds_ret (de_tup (da_cons (de_tup (da_cons (de_var 1) (da_cons (de_var 7) da_nil))) (da_cons (de_tuple rfl m_tuple (da_cons (de_sorted hu rfl m_sorted (da_cons (de_var 9) da_nil)) da_nil)) (da_cons (de_tuple rfl m_tuple (da_cons (de_var 8) da_nil)) da_nil)))))))))))))

-- _law_odd: N = ['pool', 'many', 'way', 'near'], lk = [0]
theorem sc__law_odd : FnScope N__law_odd ["pool", "many"] (defScope s__law_odd) := ⟨rfl, rfl, rfl, by decide +kernel, rfl, by decide +kernel, by decide +kernel⟩
theorem b__law_odd {P : Program} {w : World} {K : PySem.W.Frag} {mg : Str → Option Value} {base : Heap} {f : Addr} {cdv : Value} {A : Around} {outer : List Env} {s : Shared} {H : Hp} {E : XK} {B : Ba} (d__law_next : Def P w K mg base CX0 1 "_law_next" [0] 2 S__law_next)
    (hr : Room 1 (A.deeper (envOfC "_law_odd" (defScope s__law_odd) s.heap.objs.size f cdv))) (hgd : A.guards = some []) : DSs (cxOf CX0 P w K mg base N__law_odd "_law_odd" (defScope s__law_odd) f cdv A outer s H E) B [0] (defBody s__law_odd) t__law_odd :=
  have hu : A.units + 3 + 100 < cLine := un0 hr
  have hN := sc__law_odd.nd
  dss_nox (dss_cons (ds_set 2 hN rfl rfl (by first | exact .inl rfl | exact .inr rfl) (de_frz (de_call d__law_next len__law_next hr hgd (by decide) rfl (da_cons (de_var 0) (da_cons de_int da_nil))))) (dss_cons (ds_set 3 hN rfl rfl (by first | exact .inl rfl | exact .inr rfl) (de_frz (de_call d__law_next len__law_next hr hgd (by decide) rfl (da_cons (de_var 0) (da_cons (de_add (de_var 1) de_int) da_nil))))) (dss_one (ds_ret (de_sub' (de_lst (da_cons (de_neg de_int) (da_cons (de_var 1) (da_cons (de_sub de_int (de_var 1)) (da_cons (de_pow de_int de_int) (da_cons (de_sub de_int (de_pow de_int de_int)) (da_cons (de_var 3) (da_cons (de_var 3) da_nil)))))))) (de_var 2))))))

-- _law_bent: N = ['pool', 'way', 'numbers', 'many', 'at', 'odd'], lk = [0]
theorem sc__law_bent : FnScope N__law_bent ["pool", "way", "numbers", "many"] (defScope s__law_bent) := ⟨rfl, rfl, rfl, by decide +kernel, rfl, by decide +kernel, by decide +kernel⟩
theorem b__law_bent {P : Program} {w : World} {K : PySem.W.Frag} {mg : Str → Option Value} {base : Heap} {f : Addr} {cdv : Value} {A : Around} {outer : List Env} {s : Shared} {H : Hp} {E : XK} {B : Ba} (d__law_next : Def P w K mg base CX0 1 "_law_next" [0] 2 S__law_next) (m_len : mg "len" = none) (d__law_odd : Def P w K mg base CX0 2 "_law_odd" [0] 2 S__law_odd)
    (hr : Room 2 (A.deeper (envOfC "_law_bent" (defScope s__law_bent) s.heap.objs.size f cdv))) (hgd : A.guards = some []) : DSs (cxOf CX0 P w K mg base N__law_bent "_law_bent" (defScope s__law_bent) f cdv A outer s H E) B [0] (defBody s__law_bent) t__law_bent :=
  have hu : A.units + 3 + 100 < cLine := un0 hr
  have hN := sc__law_bent.nd
  dss_nox (dss_cons (ds_set 4 hN rfl rfl (by first | exact .inl rfl | exact .inr rfl) (de_frz (de_call d__law_next len__law_next hr hgd (by decide) rfl (da_cons (de_var 0) (da_cons (de_add (de_len rfl m_len (da_cons (de_var 2) da_nil)) de_int) da_nil))))) (dss_cons (ds_set 5 hN rfl rfl (by first | exact .inl rfl | exact .inr rfl) (de_frz (de_call d__law_odd len__law_odd hr hgd (by decide) rfl (da_cons (de_var 0) (da_cons (de_var 3) da_nil))))) (dss_cons (ds_if (dc_lt (de_var 1) de_int) (dss_one (ds_ret (de_frz (de_add (de_add (de_slice (de_var 2) do_no (do_at (de_var 4))) (de_tup (da_cons (de_var 5) da_nil))) (de_slice (de_var 2) (do_at (de_sub (de_add (de_var 4) de_int) (de_var 1))) do_no))))) dss_nil) (dss_cons (ds_if (dc_eq hu (de_var 1) de_int) (dss_one (ds_ret (de_frz (de_add (de_slice (de_var 2) do_no (do_at (de_var 4))) (de_slice (de_var 2) (do_at (de_add (de_var 4) de_int)) do_no))))) dss_nil) (dss_cons (ds_if (dc_eq hu (de_var 1) de_int) (dss_one (ds_ret (de_frz (de_add (de_add (de_slice (de_var 2) do_no (do_at (de_var 4))) (de_slice (de_var 2) (do_at (de_var 4)) (do_at (de_add (de_var 4) de_int)))) (de_slice (de_var 2) (do_at (de_var 4)) do_no))))) dss_nil) (dss_cons (ds_if (dc_eq hu (de_var 1) de_int) (dss_one (ds_ret (de_frz (de_add (de_add (de_slice (de_var 2) do_no (do_at (de_var 4))) (de_rev (de_slice (de_var 2) (do_at (de_var 4)) (do_at (de_add (de_var 4) de_int))))) (de_slice (de_var 2) (do_at (de_add (de_var 4) de_int)) do_no))))) dss_nil) (dss_one (ds_ret (de_frz (de_rev (de_var 2)))))))))))

-- _law_rows_bent: N = ['pool', 'way', 'rows', 'many', 'at', 'to', 'cut', 'number'], lk = [0]
theorem sc__law_rows_bent : FnScope N__law_rows_bent ["pool", "way", "rows", "many"] (defScope s__law_rows_bent) := ⟨rfl, rfl, rfl, by decide +kernel, rfl, by decide +kernel, by decide +kernel⟩
theorem b__law_rows_bent {P : Program} {w : World} {K : PySem.W.Frag} {mg : Str → Option Value} {base : Heap} {f : Addr} {cdv : Value} {A : Around} {outer : List Env} {s : Shared} {H : Hp} {E : XK} {B : Ba} (d__law_next : Def P w K mg base CX0 1 "_law_next" [0] 2 S__law_next) (m_len : mg "len" = none) (d__law_bent : Def P w K mg base CX0 3 "_law_bent" [0] 4 S__law_bent) (m_tuple : mg "tuple" = none) (m_list : mg "list" = none) (m_range : mg "range" = none)
    (hr : Room 3 (A.deeper (envOfC "_law_rows_bent" (defScope s__law_rows_bent) s.heap.objs.size f cdv))) (hgd : A.guards = some []) : DSs (cxOf CX0 P w K mg base N__law_rows_bent "_law_rows_bent" (defScope s__law_rows_bent) f cdv A outer s H E) B [0] (defBody s__law_rows_bent) t__law_rows_bent :=
  have hu : A.units + 3 + 100 < cLine := un0 hr
  have hN := sc__law_rows_bent.nd
  dss_nox (dss_cons (ds_set 4 hN rfl rfl (by first | exact .inl rfl | exact .inr rfl) (de_frz (de_call d__law_next len__law_next hr hgd (by decide) rfl (da_cons (de_var 0) (da_cons (de_add (de_len rfl m_len (da_cons (de_var 2) da_nil)) de_int) da_nil))))) (dss_cons (ds_set 5 hN rfl rfl (by first | exact .inl rfl | exact .inr rfl) (de_frz (de_call d__law_next len__law_next hr hgd (by decide) rfl (da_cons (de_var 0) (da_cons (de_add (de_len rfl m_len (da_cons (de_var 2) da_nil)) de_int) da_nil))))) (dss_cons (ds_if (PW.pt (dw_and (dc_lt (de_var 4) (de_len rfl m_len (da_cons (de_var 2) da_nil))) (dw_and1 (dc_lt (de_var 1) de_int)))) (dss_one (ds_ret (de_frz (de_add (de_add (de_slice (de_var 2) do_no (do_at (de_var 4))) (de_tup (da_cons (de_frz (de_call d__law_bent len__law_bent hr hgd (by decide) rfl (da_cons (de_var 0) (da_cons (de_var 1) (da_cons (de_sub' (de_var 2) (de_var 4)) (da_cons (de_var 3) da_nil)))))) da_nil))) (de_slice (de_var 2) (do_at (de_add (de_var 4) de_int)) do_no))))) dss_nil) (dss_cons (ds_if (PW.pt (dw_and (dc_eq hu (de_var 1) de_int) (dw_and1 (dc_lt (de_var 4) (de_len rfl m_len (da_cons (de_var 2) da_nil)))))) (dss_cons (ds_set 6 hN rfl rfl (by first | exact .inl rfl | exact .inr rfl) (de_frz (de_call d__law_next len__law_next hr hgd (by decide) rfl (da_cons (de_var 0) (da_cons (de_add (de_len rfl m_len (da_cons (de_sub' (de_var 2) (de_var 4)) da_nil)) de_int) da_nil))))) (dss_one (ds_ret (de_frz (de_add (de_add (de_slice (de_var 2) do_no (do_at (de_var 4))) (de_tup (da_cons (de_frz (de_slice (de_sub' (de_var 2) (de_var 4)) do_no (do_at (de_var 6)))) (da_cons (de_frz (de_slice (de_sub' (de_var 2) (de_var 4)) (do_at (de_var 6)) do_no)) da_nil)))) (de_slice (de_var 2) (do_at (de_add (de_var 4) de_int)) do_no)))))) dss_nil) (dss_cons (ds_if (PW.pt (dw_and (dc_eq hu (de_var 1) de_int) (dw_and1 (dc_lt (de_add (de_var 4) de_int) (de_len rfl m_len (da_cons (de_var 2) da_nil)))))) (dss_one (ds_ret (de_frz (de_add (de_add (de_slice (de_var 2) do_no (do_at (de_var 4))) (de_tup (da_cons (de_add (de_sub' (de_var 2) (de_var 4)) (de_sub' (de_var 2) (de_add (de_var 4) de_int))) da_nil))) (de_slice (de_var 2) (do_at (de_add (de_var 4) de_int)) do_no))))) dss_nil) (dss_cons (ds_if (PW.pt (dw_and (dc_eq hu (de_var 1) de_int) (dw_and1 (dc_lt (de_var 4) (de_len rfl m_len (da_cons (de_var 2) da_nil)))))) (dss_one (ds_ret (de_frz (de_add (de_add (de_slice (de_var 2) do_no (do_at (de_var 5))) (de_tup (da_cons (de_sub' (de_var 2) (de_var 4)) da_nil))) (de_slice (de_var 2) (do_at (de_var 5)) do_no))))) dss_nil) (dss_cons (ds_if (dc_eq hu (de_mod (de_var 5) de_int) de_int) (dss_one (ds_ret (de_tup (da_cons (de_tuple rfl m_tuple (da_cons (de_listR rfl rfl m_list (dr_1 rfl m_range (de_var 3))) da_nil)) da_nil)))) dss_nil) (dss_cons (ds_if (dc_eq hu (de_mod (de_var 5) de_int) de_int) (dss_one (ds_ret (de_tuple rfl m_tuple (da_cons (de_lc [] rfl hN (di_range1 rfl m_range (da_cons (de_var 3) da_nil)) (own := [("number", 7)]) (blk_ok (by kernel_rfl)) rfl rfl (fun _ _ _ _ _ => (dg_name 7 hN rfl rfl (by first | exact .inl rfl | exact .inr rfl))) (fun _ _ _ _ _ => dts_nil) (fun _ _ _ _ _ => (de_tup (da_cons (de_var 7) da_nil)))) da_nil)))) dss_nil) (dss_cons (ds_if (dc_eq hu (de_mod (de_var 5) de_int) de_int) (dss_one (ds_ret (de_frz (de_add (de_slice (de_var 2) (do_at (de_var 4)) do_no) (de_slice (de_var 2) do_no (do_at (de_var 4))))))) dss_nil) (dss_one (ds_ret (de_sub' (de_lst (da_cons (de_frz (de_rev (de_var 2))) (da_cons (de_frz (de_add (de_slice (de_var 2) do_no (do_at (de_var 4))) (de_slice (de_var 2) (do_at (de_add (de_var 4) de_int)) do_no))) (da_cons (de_frz (de_add (de_add (de_slice (de_var 2) do_no (do_at (de_var 4))) (de_tup (da_cons (de_tup da_nil) da_nil))) (de_slice (de_var 2) (do_at (de_var 4)) do_no))) da_nil)))) (de_mod (de_var 5) de_int)))))))))))))

-- _law_mids: N = ['some', 'rows', 'row', 'number'], lk = []
theorem sc__law_mids : FnScope N__law_mids ["some", "rows"] (defScope s__law_mids) := ⟨rfl, rfl, rfl, by decide +kernel, rfl, by decide +kernel, by decide +kernel⟩
theorem b__law_mids {P : Program} {w : World} {K : PySem.W.Frag} {mg : Str → Option Value} {base : Heap} {f : Addr} {cdv : Value} {A : Around} {outer : List Env} {s : Shared} {H : Hp} {E : XK} {B : Ba} 
    (hr : Room 0 (A.deeper (envOfC "_law_mids" (defScope s__law_mids) s.heap.objs.size f cdv))) (hgd : A.guards = some []) : DSs (cxOf CX0 P w K mg base N__law_mids "_law_mids" (defScope s__law_mids) f cdv A outer s H E) B [] (defBody s__law_mids) t__law_mids :=
  have hu : A.units + 3 + 100 < cLine := un0 hr
  have hN := sc__law_mids.nd
  dss_nox (dss_one (ds_ret (de_frz (de_lc [] rfl hN (di_seq (de_var 1)) (own := [("row", 2)]) (blk_ok (by kernel_rfl)) rfl rfl (fun _ _ _ _ _ => (dg_name 2 hN rfl rfl (by first | exact .inl rfl | exact .inr rfl))) (fun _ _ _ _ _ => dts_nil) (fun _ _ _ _ _ => (de_sub' (de_lc [] rfl hN (di_seq (de_var 2)) (own := [("number", 3)]) (blk_ok (by kernel_rfl)) rfl rfl (fun _ _ _ _ _ => (dg_name 3 hN rfl rfl (by first | exact .inl rfl | exact .inr rfl))) (fun _ _ _ _ _ => (dts_one (dc_in hu (de_var 3) (de_var 0)))) (fun _ _ _ _ _ => (de_var 3))) de_int))))))

-- _law_doubled: N = ['pool', 'points', 'rows', 'pairs', 'k', 'row', 'others', 'one'], lk = [0]
theorem sc__law_doubled : FnScope N__law_doubled ["pool", "points", "rows"] (defScope s__law_doubled) := ⟨rfl, rfl, rfl, by decide +kernel, rfl, by decide +kernel, by decide +kernel⟩
theorem b__law_doubled {P : Program} {w : World} {K : PySem.W.Frag} {mg : Str → Option Value} {base : Heap} {f : Addr} {cdv : Value} {A : Around} {outer : List Env} {s : Shared} {H : Hp} {E : XK} {B : Ba} (m_enumerate : mg "enumerate" = none) (m_range : mg "range" = none) (m_len : mg "len" = none) (d__law_over : Def P w K mg base CX0 1 "_law_over" [] 2 S__law_over) (d__law_next : Def P w K mg base CX0 1 "_law_next" [0] 2 S__law_next)
    (hr : Room 1 (A.deeper (envOfC "_law_doubled" (defScope s__law_doubled) s.heap.objs.size f cdv))) (hgd : A.guards = some []) : DSs (cxOf CX0 P w K mg base N__law_doubled "_law_doubled" (defScope s__law_doubled) f cdv A outer s H E) B [0] (defBody s__law_doubled) t__law_doubled :=
  have hu : A.units + 3 + 100 < cLine := un0 hr
  have hN := sc__law_doubled.nd
  dss_nox (dss_cons (ds_set 3 hN rfl rfl (by first | exact .inl rfl | exact .inr rfl) (de_lst da_nil)) (dss_cons (ds_for [] .never rfl (di_enum rfl m_enumerate (da_cons (de_var 2) da_nil)) (dg_tup rfl (dgs_cons (dg_name 4 hN rfl rfl (by first | exact .inl rfl | exact .inr rfl)) (dgs_cons (dg_name 5 hN rfl rfl (by first | exact .inl rfl | exact .inr rfl)) dgs_nil))) (dss_cons (ds_setLc [] 6 (fun _ _ _ h => le_frz h) rfl hN rfl rfl rfl rfl (di_range1 rfl m_range (da_cons (de_len rfl m_len (da_cons (de_var 1) da_nil)) da_nil)) (own := [("one", 7)]) (blk_ok (by kernel_rfl)) rfl rfl (fun _ _ _ _ _ => (dg_name 7 hN rfl rfl (by first | exact .inl rfl | exact .inr rfl))) (fun _ _ _ _ _ => (dts_one (dc_notIn hu (de_var 7) (de_var 5)))) (fun _ _ _ _ _ => (de_var 7))) (dss_one (ds_expr (de_extend (de_var 3) (da_cons (de_lc [] rfl hN (di_seq (de_var 6)) (own := [("one", 7)]) (blk_ok (by kernel_rfl)) rfl rfl (fun _ _ _ _ _ => (dg_name 7 hN rfl rfl (by first | exact .inl rfl | exact .inr rfl))) (fun _ _ _ _ _ => (dts_one (dc_val (de_call d__law_over len__law_over hr hgd (by decide) rfl (da_cons (de_sub' (de_var 1) (de_var 7)) (da_cons (de_sub' (de_var 1) (de_sub' (de_var 5) de_int)) da_nil)))))) (fun _ _ _ _ _ => (de_tup (da_cons (de_var 4) (da_cons (de_var 7) da_nil))))) da_nil)))))) (dss_cons (ds_if (dc_eq hu (de_var 3) (de_lst da_nil)) (dss_one (ds_ret (de_var 2))) dss_nil) (dss_cons (ds_asg (de_sub' (de_var 3) (de_call d__law_next len__law_next hr hgd (by decide) rfl (da_cons (de_var 0) (da_cons (de_len rfl m_len (da_cons (de_var 3) da_nil)) da_nil)))) (dg_tup rfl (dgs_cons (dg_name 4 hN rfl rfl (by first | exact .inl rfl | exact .inr rfl)) (dgs_cons (dg_name 7 hN rfl rfl (by first | exact .inl rfl | exact .inr rfl)) dgs_nil)))) (dss_one (ds_ret (de_frz (de_add (de_add (de_slice (de_var 2) do_no (do_at (de_var 4))) (de_tup (da_cons (de_add (de_tup (da_cons (de_var 7) da_nil)) (de_sub' (de_var 2) (de_var 4))) da_nil))) (de_slice (de_var 2) (do_at (de_add (de_var 4) de_int)) do_no)))))))))

-- _law_in_place: N = ['pool', 'points', 'rows', 'pairs', 'k', 'row', 'others', 'one'], lk = [0]
theorem sc__law_in_place : FnScope N__law_in_place ["pool", "points", "rows"] (defScope s__law_in_place) := ⟨rfl, rfl, rfl, by decide +kernel, rfl, by decide +kernel, by decide +kernel⟩
theorem b__law_in_place {P : Program} {w : World} {K : PySem.W.Frag} {mg : Str → Option Value} {base : Heap} {f : Addr} {cdv : Value} {A : Around} {outer : List Env} {s : Shared} {H : Hp} {E : XK} {B : Ba} (m_enumerate : mg "enumerate" = none) (m_range : mg "range" = none) (m_len : mg "len" = none) (d__law_over : Def P w K mg base CX0 1 "_law_over" [] 2 S__law_over) (d__law_next : Def P w K mg base CX0 1 "_law_next" [0] 2 S__law_next)
    (hr : Room 1 (A.deeper (envOfC "_law_in_place" (defScope s__law_in_place) s.heap.objs.size f cdv))) (hgd : A.guards = some []) : DSs (cxOf CX0 P w K mg base N__law_in_place "_law_in_place" (defScope s__law_in_place) f cdv A outer s H E) B [0] (defBody s__law_in_place) t__law_in_place :=
  have hu : A.units + 3 + 100 < cLine := un0 hr
  have hN := sc__law_in_place.nd
  dss_nox (dss_cons (ds_set 3 hN rfl rfl (by first | exact .inl rfl | exact .inr rfl) (de_lst da_nil)) (dss_cons (ds_for [] .never rfl (di_enum rfl m_enumerate (da_cons (de_var 2) da_nil)) (dg_tup rfl (dgs_cons (dg_name 4 hN rfl rfl (by first | exact .inl rfl | exact .inr rfl)) (dgs_cons (dg_name 5 hN rfl rfl (by first | exact .inl rfl | exact .inr rfl)) dgs_nil))) (dss_cons (ds_setLc [] 6 (fun _ _ _ h => le_frz h) rfl hN rfl rfl rfl rfl (di_range1 rfl m_range (da_cons (de_len rfl m_len (da_cons (de_var 1) da_nil)) da_nil)) (own := [("one", 7)]) (blk_ok (by kernel_rfl)) rfl rfl (fun _ _ _ _ _ => (dg_name 7 hN rfl rfl (by first | exact .inl rfl | exact .inr rfl))) (fun _ _ _ _ _ => (dts_one (dc_notIn hu (de_var 7) (de_var 5)))) (fun _ _ _ _ _ => (de_var 7))) (dss_one (ds_expr (de_extend (de_var 3) (da_cons (de_lc [] rfl hN (di_seq (de_var 6)) (own := [("one", 7)]) (blk_ok (by kernel_rfl)) rfl rfl (fun _ _ _ _ _ => (dg_name 7 hN rfl rfl (by first | exact .inl rfl | exact .inr rfl))) (fun _ _ _ _ _ => (dts_one (PW.pt (dw_or (dc_eq hu (de_len rfl m_len (da_cons (de_var 5) da_nil)) de_int) (dw_or1 (dc_val (de_call d__law_over len__law_over hr hgd (by decide) rfl (da_cons (de_sub' (de_var 1) (de_sub' (de_var 5) (de_neg de_int))) (da_cons (de_sub' (de_var 1) (de_var 7)) da_nil))))))))) (fun _ _ _ _ _ => (de_tup (da_cons (de_var 4) (da_cons (de_var 7) da_nil))))) da_nil)))))) (dss_cons (ds_if (dc_eq hu (de_var 3) (de_lst da_nil)) (dss_one (ds_ret (de_var 2))) dss_nil) (dss_cons (ds_asg (de_sub' (de_var 3) (de_call d__law_next len__law_next hr hgd (by decide) rfl (da_cons (de_var 0) (da_cons (de_len rfl m_len (da_cons (de_var 3) da_nil)) da_nil)))) (dg_tup rfl (dgs_cons (dg_name 4 hN rfl rfl (by first | exact .inl rfl | exact .inr rfl)) (dgs_cons (dg_name 7 hN rfl rfl (by first | exact .inl rfl | exact .inr rfl)) dgs_nil)))) (dss_one (ds_ret (de_frz (de_add (de_add (de_slice (de_var 2) do_no (do_at (de_var 4))) (de_tup (da_cons (de_frz (de_add (de_slice (de_sub' (de_var 2) (de_var 4)) do_no (do_at (de_neg de_int))) (de_tup (da_cons (de_var 7) da_nil)))) da_nil))) (de_slice (de_var 2) (do_at (de_add (de_var 4) de_int)) do_no)))))))))

-- _law_beside: N = ['pool', 'some', 'rows', 'mids', 'pairs', 'k', 'row', 'at', 'one', 'gone', 'mid', 'number'], lk = [0]
theorem sc__law_beside : FnScope N__law_beside ["pool", "some", "rows"] (defScope s__law_beside) := ⟨rfl, rfl, rfl, by decide +kernel, rfl, by decide +kernel, by decide +kernel⟩
theorem b__law_beside {P : Program} {w : World} {K : PySem.W.Frag} {mg : Str → Option Value} {base : Heap} {f : Addr} {cdv : Value} {A : Around} {outer : List Env} {s : Shared} {H : Hp} {E : XK} {B : Ba} (d__law_mids : Def P w K mg base CX0 1 "_law_mids" [] 2 S__law_mids) (m_enumerate : mg "enumerate" = none) (m_max : mg "max" = none) (m_len : mg "len" = none) (d__law_next : Def P w K mg base CX0 1 "_law_next" [0] 2 S__law_next) (m_tuple : mg "tuple" = none) (m_sorted : mg "sorted" = none)
    (hr : Room 1 (A.deeper (envOfC "_law_beside" (defScope s__law_beside) s.heap.objs.size f cdv))) (hgd : A.guards = some []) : DSs (cxOf CX0 P w K mg base N__law_beside "_law_beside" (defScope s__law_beside) f cdv A outer s H E) B [0] (defBody s__law_beside) t__law_beside :=
  have hu : A.units + 3 + 100 < cLine := un0 hr
  have hN := sc__law_beside.nd
  dss_nox (dss_cons (ds_set 3 hN rfl rfl (by first | exact .inl rfl | exact .inr rfl) (de_frz (de_call d__law_mids len__law_mids hr hgd (by decide) rfl (da_cons (de_var 1) (da_cons (de_varP 2) da_nil))))) (dss_cons (ds_set 4 hN rfl rfl (by first | exact .inl rfl | exact .inr rfl) (de_lst da_nil)) (dss_cons (ds_for [] .never rfl (di_enum rfl m_enumerate (da_cons (de_var 2) da_nil)) (dg_tup rfl (dgs_cons (dg_name 5 hN rfl rfl (by first | exact .inl rfl | exact .inr rfl)) (dgs_cons (dg_name 6 hN rfl rfl (by first | exact .inl rfl | exact .inr rfl)) dgs_nil))) (dss_cons (ds_set 7 hN rfl rfl (by first | exact .inl rfl | exact .inr rfl) (de_frz (de_ixE hu (de_var 6) (de_sub' (de_var 3) (de_var 5))))) (dss_one (ds_expr (de_extend (de_var 4) (da_cons (de_lc [] rfl hN (di_seq (de_add (de_slice (de_varP 6) (do_at (de_max2 rfl rfl m_max (da_cons de_int (da_cons (de_sub (de_var 7) de_int) da_nil)))) (do_at (de_var 7))) (de_slice (de_varP 6) (do_at (de_add (de_var 7) de_int)) (do_at (de_add (de_var 7) de_int))))) (own := [("one", 8)]) (blk_ok (by kernel_rfl)) rfl rfl (fun _ _ _ _ _ => (dg_name 8 hN rfl rfl (by first | exact .inl rfl | exact .inr rfl))) (fun _ _ _ _ _ => dts_nil) (fun _ _ _ _ _ => (de_tup (da_cons (de_var 5) (da_cons (de_var 8) da_nil))))) da_nil)))))) (dss_cons (ds_if (PW.pt (dw_or (dc_eq hu (de_var 4) (de_lst da_nil)) (dw_or1 (dc_lt (de_len rfl m_len (da_cons (de_varP 2) da_nil)) de_int)))) (dss_one (ds_ret (de_var 1))) dss_nil) (dss_cons (ds_asg (de_sub' (de_var 4) (de_call d__law_next len__law_next hr hgd (by decide) rfl (da_cons (de_var 0) (da_cons (de_len rfl m_len (da_cons (de_var 4) da_nil)) da_nil)))) (dg_tup rfl (dgs_cons (dg_name 5 hN rfl rfl (by first | exact .inl rfl | exact .inr rfl)) (dgs_cons (dg_name 8 hN rfl rfl (by first | exact .inl rfl | exact .inr rfl)) dgs_nil)))) (dss_cons (ds_set 9 hN rfl rfl (by first | exact .inl rfl | exact .inr rfl) (de_sub' (de_lc [] rfl hN (di_seq (de_var 3)) (own := [("mid", 10)]) (blk_ok (by kernel_rfl)) rfl rfl (fun _ _ _ _ _ => (dg_name 10 hN rfl rfl (by first | exact .inl rfl | exact .inr rfl))) (fun _ _ _ _ _ => (dts_one (dc_ne hu (de_var 10) (de_sub' (de_var 3) (de_var 5))))) (fun _ _ _ _ _ => (de_var 10))) (de_call d__law_next len__law_next hr hgd (by decide) rfl (da_cons (de_var 0) (da_cons (de_sub (de_len rfl m_len (da_cons (de_var 3) da_nil)) de_int) da_nil))))) (dss_one (ds_ret (de_tuple rfl m_tuple (da_cons (de_sorted hu rfl m_sorted (da_cons (de_add (de_lc [] rfl hN (di_seq (de_var 1)) (own := [("number", 11)]) (blk_ok (by kernel_rfl)) rfl rfl (fun _ _ _ _ _ => (dg_name 11 hN rfl rfl (by first | exact .inl rfl | exact .inr rfl))) (fun _ _ _ _ _ => (dts_one (dc_ne hu (de_var 11) (de_var 9)))) (fun _ _ _ _ _ => (de_var 11))) (de_lst (da_cons (de_var 8) da_nil))) da_nil)) da_nil))))))))))

-- _law_crossed: N = ['pool', 'points', 'some', 'rows', 'mids', 'pairs', 'i', 'j', 'a', 'b', 'first', 'rest', 'others', 'k', 'number'], lk = [0]
theorem sc__law_crossed : FnScope N__law_crossed ["pool", "points", "some", "rows"] (defScope s__law_crossed) := ⟨rfl, rfl, rfl, by decide +kernel, rfl, by decide +kernel, by decide +kernel⟩
theorem b__law_crossed {P : Program} {w : World} {K : PySem.W.Frag} {mg : Str → Option Value} {base : Heap} {f : Addr} {cdv : Value} {A : Around} {outer : List Env} {s : Shared} {H : Hp} {E : XK} {B : Ba} (d__law_mids : Def P w K mg base CX0 1 "_law_mids" [] 2 S__law_mids) (m_range : mg "range" = none) (m_len : mg "len" = none) (d__law_next : Def P w K mg base CX0 1 "_law_next" [0] 2 S__law_next) (m_tuple : mg "tuple" = none)
    (hr : Room 1 (A.deeper (envOfC "_law_crossed" (defScope s__law_crossed) s.heap.objs.size f cdv))) (hgd : A.guards = some []) : DSs (cxOf CX0 P w K mg base N__law_crossed "_law_crossed" (defScope s__law_crossed) f cdv A outer s H E) B [0] (defBody s__law_crossed) t__law_crossed :=
  have hu : A.units + 3 + 100 < cLine := un0 hr
  have hN := sc__law_crossed.nd
  dss_nox (dss_cons (ds_set 4 hN rfl rfl (by first | exact .inl rfl | exact .inr rfl) (de_frz (de_call d__law_mids len__law_mids hr hgd (by decide) rfl (da_cons (de_var 2) (da_cons (de_varP 3) da_nil))))) (dss_cons (ds_set 5 hN rfl rfl (by first | exact .inl rfl | exact .inr rfl) (de_lst da_nil)) (dss_cons (ds_for [] .never rfl (di_range1 rfl m_range (da_cons (de_len rfl m_len (da_cons (de_varP 3) da_nil)) da_nil)) (dg_name 6 hN rfl rfl (by first | exact .inl rfl | exact .inr rfl)) (dss_one (ds_expr (de_extend (de_var 5) (da_cons (de_lc [] rfl hN (di_range1 rfl m_range (da_cons (de_len rfl m_len (da_cons (de_varP 3) da_nil)) da_nil)) (own := [("j", 7)]) (blk_ok (by kernel_rfl)) rfl rfl (fun _ _ _ _ _ => (dg_name 7 hN rfl rfl (by first | exact .inl rfl | exact .inr rfl))) (fun _ _ _ _ _ => (dts_one (PW.pt (dw_and (dc_ne hu (de_var 6) (de_var 7)) (dw_and1 (dc_eq hu (de_sub' (de_var 1) (de_sub' (de_var 4) (de_var 6))) (de_sub' (de_var 1) (de_sub' (de_var 4) (de_var 7))))))))) (fun _ _ _ _ _ => (de_tup (da_cons (de_var 6) (da_cons (de_var 7) da_nil))))) da_nil))))) (dss_cons (ds_if (dc_eq hu (de_var 5) (de_lst da_nil)) (dss_one (ds_ret (de_tup (da_cons (de_var 2) (da_cons (de_varP 3) da_nil))))) dss_nil) (dss_cons (ds_asg (de_sub' (de_var 5) (de_call d__law_next len__law_next hr hgd (by decide) rfl (da_cons (de_var 0) (da_cons (de_len rfl m_len (da_cons (de_var 5) da_nil)) da_nil)))) (dg_tup rfl (dgs_cons (dg_name 6 hN rfl rfl (by first | exact .inl rfl | exact .inr rfl)) (dgs_cons (dg_name 7 hN rfl rfl (by first | exact .inl rfl | exact .inr rfl)) dgs_nil)))) (dss_cons (ds_par 8 9 rfl hN rfl rfl rfl rfl (by decide) rfl rfl (da_cons (de_frz (de_ixE hu (de_sub' (de_var 3) (de_var 6)) (de_sub' (de_var 4) (de_var 6)))) (da_cons (de_frz (de_ixE hu (de_sub' (de_var 3) (de_var 7)) (de_sub' (de_var 4) (de_var 7)))) da_nil)) rfl) (dss_cons (ds_set 10 hN rfl rfl (by first | exact .inl rfl | exact .inr rfl) (de_frz (de_add (de_slice (de_sub' (de_varP 3) (de_var 6)) do_no (do_at (de_add (de_var 8) de_int))) (de_slice (de_sub' (de_varP 3) (de_var 7)) (do_at (de_var 9)) do_no)))) (dss_cons (ds_set 11 hN rfl rfl (by first | exact .inl rfl | exact .inr rfl) (de_frz (de_add (de_slice (de_sub' (de_varP 3) (de_var 7)) do_no (do_at (de_var 9))) (de_slice (de_sub' (de_varP 3) (de_var 6)) (do_at (de_add (de_var 8) de_int)) do_no)))) (dss_cons (ds_set 12 hN rfl rfl (by first | exact .inl rfl | exact .inr rfl) (de_tuple rfl m_tuple (da_cons (de_lc [] rfl hN (di_range1 rfl m_range (da_cons (de_len rfl m_len (da_cons (de_varP 3) da_nil)) da_nil)) (own := [("k", 13)]) (blk_ok (by kernel_rfl)) rfl rfl (fun _ _ _ _ _ => (dg_name 13 hN rfl rfl (by first | exact .inl rfl | exact .inr rfl))) (fun _ _ _ _ _ => (dts_one (dc_notIn hu (de_var 13) (de_tup (da_cons (de_var 6) (da_cons (de_var 7) da_nil)))))) (fun _ _ _ _ _ => (de_sub' (de_varP 3) (de_var 13)))) da_nil))) (dss_cons (ds_if (dc_eq hu (de_var 11) (de_tup da_nil)) (dss_one (ds_ret (de_tup (da_cons (de_tuple rfl m_tuple (da_cons (de_lc [] rfl hN (di_seq (de_var 2)) (own := [("number", 14)]) (blk_ok (by kernel_rfl)) rfl rfl (fun _ _ _ _ _ => (dg_name 14 hN rfl rfl (by first | exact .inl rfl | exact .inr rfl))) (fun _ _ _ _ _ => (dts_one (dc_ne hu (de_var 14) (de_sub' (de_var 4) (de_var 7))))) (fun _ _ _ _ _ => (de_var 14))) da_nil)) (da_cons (de_add (de_var 12) (de_tup (da_cons (de_var 10) da_nil))) da_nil))))) dss_nil) (dss_one (ds_ret (de_tup (da_cons (de_var 2) (da_cons (de_add (de_var 12) (de_tup (da_cons (de_var 10) (da_cons (de_var 11) da_nil)))) da_nil)))))))))))))))

-- _law_twice: N = ['pool', 'some', 'rows', 'long', 'at', 'cut', 'to', 'parted', 'k'], lk = [0]
theorem sc__law_twice : FnScope N__law_twice ["pool", "some", "rows"] (defScope s__law_twice) := ⟨rfl, rfl, rfl, by decide +kernel, rfl, by decide +kernel, by decide +kernel⟩
theorem b__law_twice {P : Program} {w : World} {K : PySem.W.Frag} {mg : Str → Option Value} {base : Heap} {f : Addr} {cdv : Value} {A : Around} {outer : List Env} {s : Shared} {H : Hp} {E : XK} {B : Ba} (m_range : mg "range" = none) (m_len : mg "len" = none) (d__law_next : Def P w K mg base CX0 1 "_law_next" [0] 2 S__law_next)
    (hr : Room 1 (A.deeper (envOfC "_law_twice" (defScope s__law_twice) s.heap.objs.size f cdv))) (hgd : A.guards = some []) : DSs (cxOf CX0 P w K mg base N__law_twice "_law_twice" (defScope s__law_twice) f cdv A outer s H E) B [0] (defBody s__law_twice) t__law_twice :=
  have hu : A.units + 3 + 100 < cLine := un0 hr
  have hN := sc__law_twice.nd
  dss_nox (dss_cons (ds_setLc [] 3 (fun _ _ _ h => le_frz h) rfl hN rfl rfl rfl rfl (di_range1 rfl m_range (da_cons (de_len rfl m_len (da_cons (de_var 2) da_nil)) da_nil)) (own := [("k", 8)]) (blk_ok (by kernel_rfl)) rfl rfl (fun _ _ _ _ _ => (dg_name 8 hN rfl rfl (by first | exact .inl rfl | exact .inr rfl))) (fun _ _ _ _ _ => (dts_one (dc_gt (de_len rfl m_len (da_cons (de_sub' (de_var 2) (de_var 8)) da_nil)) de_int))) (fun _ _ _ _ _ => (de_var 8))) (dss_cons (ds_if (dc_eq hu (de_var 3) (de_lst da_nil)) (dss_one (ds_ret (de_tup (da_cons (de_frz (de_add (de_var 1) (de_slice (de_var 1) do_no (do_at de_int)))) (da_cons (de_var 2) da_nil))))) dss_nil) (dss_cons (ds_set 4 hN rfl rfl (by first | exact .inl rfl | exact .inr rfl) (de_sub' (de_var 3) (de_call d__law_next len__law_next hr hgd (by decide) rfl (da_cons (de_var 0) (da_cons (de_len rfl m_len (da_cons (de_var 3) da_nil)) da_nil))))) (dss_cons (ds_set 5 hN rfl rfl (by first | exact .inl rfl | exact .inr rfl) (de_frz (de_add de_int (de_call d__law_next len__law_next hr hgd (by decide) rfl (da_cons (de_var 0) (da_cons (de_sub (de_len rfl m_len (da_cons (de_sub' (de_var 2) (de_var 4)) da_nil)) de_int) da_nil)))))) (dss_cons (ds_set 6 hN rfl rfl (by first | exact .inl rfl | exact .inr rfl) (de_frz (de_call d__law_next len__law_next hr hgd (by decide) rfl (da_cons (de_var 0) (da_cons (de_len rfl m_len (da_cons (de_var 1) da_nil)) da_nil))))) (dss_cons (ds_set 7 hN rfl rfl (by first | exact .inl rfl | exact .inr rfl) (de_frz (de_add (de_add (de_slice (de_var 2) do_no (do_at (de_var 4))) (de_tup (da_cons (de_frz (de_slice (de_sub' (de_var 2) (de_var 4)) do_no (do_at (de_var 5)))) (da_cons (de_frz (de_slice (de_sub' (de_var 2) (de_var 4)) (do_at (de_var 5)) do_no)) da_nil)))) (de_slice (de_var 2) (do_at (de_add (de_var 4) de_int)) do_no)))) (dss_one (ds_ret (de_tup (da_cons (de_frz (de_add (de_add (de_slice (de_var 1) do_no (do_at (de_var 6))) (de_slice (de_var 1) (do_at (de_var 6)) (do_at (de_add (de_var 6) de_int)))) (de_slice (de_var 1) (do_at (de_var 6)) do_no))) (da_cons (de_var 7) da_nil)))))))))))

-- _law_falls: N = ['points', 'row', 'k'], lk = []
theorem sc__law_falls : FnScope N__law_falls ["points", "row"] (defScope s__law_falls) := ⟨rfl, rfl, rfl, by decide +kernel, rfl, by decide +kernel, by decide +kernel⟩
theorem b__law_falls {P : Program} {w : World} {K : PySem.W.Frag} {mg : Str → Option Value} {base : Heap} {f : Addr} {cdv : Value} {A : Around} {outer : List Env} {s : Shared} {H : Hp} {E : XK} {B : Ba} (m_range : mg "range" = none) (m_len : mg "len" = none) (d__law_over : Def P w K mg base CX0 1 "_law_over" [] 2 S__law_over)
    (hr : Room 1 (A.deeper (envOfC "_law_falls" (defScope s__law_falls) s.heap.objs.size f cdv))) (hgd : A.guards = some []) : DSs (cxOf CX0 P w K mg base N__law_falls "_law_falls" (defScope s__law_falls) f cdv A outer s H E) B [] (defBody s__law_falls) t__law_falls :=
  have hu : A.units + 3 + 100 < cLine := un0 hr
  have hN := sc__law_falls.nd
  dss_nox (dss_cons (ds_for [] .never rfl (di_range2 rfl m_range (da_cons de_int (da_cons (de_len rfl m_len (da_cons (de_var 1) da_nil)) da_nil))) (dg_name 2 hN rfl rfl (by first | exact .inl rfl | exact .inr rfl)) (dss_one (ds_if (dc_not (dc_val (de_call d__law_over len__law_over hr hgd (by decide) rfl (da_cons (de_sub' (de_var 0) (de_sub' (de_var 1) (de_sub (de_var 2) de_int))) (da_cons (de_sub' (de_var 0) (de_sub' (de_var 1) (de_var 2))) da_nil))))) (dss_one (ds_ret de_bl)) dss_nil))) (dss_one (ds_ret de_bl)))

-- _law_clash: N = ['points', 'some', 'one', 'other'], lk = []
theorem sc__law_clash : FnScope N__law_clash ["points", "some"] (defScope s__law_clash) := ⟨rfl, rfl, rfl, by decide +kernel, rfl, by decide +kernel, by decide +kernel⟩
theorem b__law_clash {P : Program} {w : World} {K : PySem.W.Frag} {mg : Str → Option Value} {base : Heap} {f : Addr} {cdv : Value} {A : Around} {outer : List Env} {s : Shared} {H : Hp} {E : XK} {B : Ba} (d__law_over : Def P w K mg base CX0 1 "_law_over" [] 2 S__law_over)
    (hr : Room 1 (A.deeper (envOfC "_law_clash" (defScope s__law_clash) s.heap.objs.size f cdv))) (hgd : A.guards = some []) : DSs (cxOf CX0 P w K mg base N__law_clash "_law_clash" (defScope s__law_clash) f cdv A outer s H E) B [] (defBody s__law_clash) t__law_clash :=
  have hu : A.units + 3 + 100 < cLine := un0 hr
  have hN := sc__law_clash.nd
  dss_nox (dss_cons (ds_for [] .never rfl (di_seq (de_var 1)) (dg_name 2 hN rfl rfl (by first | exact .inl rfl | exact .inr rfl)) (dss_one (ds_if (dc_ne hu (de_lc [] rfl hN (di_seq (de_var 1)) (own := [("other", 3)]) (blk_ok (by kernel_rfl)) rfl rfl (fun _ _ _ _ _ => (dg_name 3 hN rfl rfl (by first | exact .inl rfl | exact .inr rfl))) (fun _ _ _ _ _ => (dts_one (dc_val (de_call d__law_over len__law_over hr hgd (by decide) rfl (da_cons (de_sub' (de_var 0) (de_var 2)) (da_cons (de_sub' (de_var 0) (de_var 3)) da_nil)))))) (fun _ _ _ _ _ => de_int)) (de_lst da_nil)) (dss_one (ds_ret de_bl)) dss_nil))) (dss_one (ds_ret de_bl)))

-- _law_is_spread: N = ['points', 'some', 'rows', 'numbers', 'row', 'one'], lk = []
theorem sc__law_is_spread : FnScope N__law_is_spread ["points", "some", "rows"] (defScope s__law_is_spread) := ⟨rfl, rfl, rfl, by decide +kernel, rfl, by decide +kernel, by decide +kernel⟩
theorem b__law_is_spread {P : Program} {w : World} {K : PySem.W.Frag} {mg : Str → Option Value} {base : Heap} {f : Addr} {cdv : Value} {A : Around} {outer : List Env} {s : Shared} {H : Hp} {E : XK} {B : Ba} (m_list : mg "list" = none) (m_len : mg "len" = none) (m_sorted : mg "sorted" = none) (m_set : mg "set" = none) (d__law_clash : Def P w K mg base CX0 2 "_law_clash" [] 2 S__law_clash) (d__law_falls : Def P w K mg base CX0 2 "_law_falls" [] 2 S__law_falls) (m_range : mg "range" = none)
    (hr : Room 2 (A.deeper (envOfC "_law_is_spread" (defScope s__law_is_spread) s.heap.objs.size f cdv))) (hgd : A.guards = some []) : DSs (cxOf CX0 P w K mg base N__law_is_spread "_law_is_spread" (defScope s__law_is_spread) f cdv A outer s H E) B [] (defBody s__law_is_spread) t__law_is_spread :=
  have hu : A.units + 3 + 100 < cLine := un0 hr
  have hN := sc__law_is_spread.nd
  dss_nox (dss_cons (ds_set 3 hN rfl rfl (by first | exact .inl rfl | exact .inr rfl) (de_frz (de_list rfl m_list (da_cons (de_var 1) da_nil)))) (dss_cons (ds_for [] .never rfl (di_seq (de_var 2)) (dg_name 4 hN rfl rfl (by first | exact .inl rfl | exact .inr rfl)) (dss_one (ds_set 3 hN rfl rfl (by first | exact .inl rfl | exact .inr rfl) (de_frz (de_add (de_var 3) (de_list rfl m_list (da_cons (de_var 4) da_nil))))))) (dss_cons (ds_if (PW.pt (dw_or (dc_ne hu (de_len rfl m_len (da_cons (de_var 1) da_nil)) (de_len rfl m_len (da_cons (de_var 2) da_nil))) (dw_or1 (dc_ne hu (de_lc [] rfl hN (di_seq (de_var 3)) (own := [("one", 5)]) (blk_ok (by kernel_rfl)) rfl rfl (fun _ _ _ _ _ => (dg_name 5 hN rfl rfl (by first | exact .inl rfl | exact .inr rfl))) (fun _ _ _ _ _ => (dts_one (PW.pt (dw_or (dc_lt (de_var 5) de_int) (dw_or1 (dc_ge (de_var 5) (de_len rfl m_len (da_cons (de_var 0) da_nil)))))))) (fun _ _ _ _ _ => de_int)) (de_lst da_nil))))) (dss_one (ds_ret de_bl)) dss_nil) (dss_cons (ds_if (PW.pt (dw_or (dc_ne hu (de_list rfl m_list (da_cons (de_var 1) da_nil)) (de_sortedSet rfl rfl m_sorted rfl m_set (da_cons (de_var 1) da_nil))) (dw_or (dc_in hu (de_tup da_nil) (de_var 2)) (dw_or1 (dc_val (de_call d__law_clash len__law_clash hr hgd (by decide) rfl (da_cons (de_var 0) (da_cons (de_var 1) da_nil)))))))) (dss_one (ds_ret de_bl)) dss_nil) (dss_cons (ds_if (dc_ne hu (de_lc [] rfl hN (di_seq (de_var 2)) (own := [("row", 4)]) (blk_ok (by kernel_rfl)) rfl rfl (fun _ _ _ _ _ => (dg_name 4 hN rfl rfl (by first | exact .inl rfl | exact .inr rfl))) (fun _ _ _ _ _ => (dts_one (dc_not (dc_val (de_call d__law_falls len__law_falls hr hgd (by decide) rfl (da_cons (de_var 0) (da_cons (de_var 4) da_nil))))))) (fun _ _ _ _ _ => de_int)) (de_lst da_nil)) (dss_one (ds_ret de_bl)) dss_nil) (dss_one (ds_ret (de_eq hu (de_sorted hu rfl m_sorted (da_cons (de_slice (de_var 3) (do_at (de_len rfl m_len (da_cons (de_var 1) da_nil))) do_no) da_nil)) (de_listR rfl rfl m_list (dr_1 rfl m_range (de_len rfl m_len (da_cons (de_var 0) da_nil))))))))))))

-- _law_right: N = ['book', 'some', 'rows', 'due', 'found', 'again', 'one'], lk = []
theorem sc__law_right : FnScope N__law_right ["book", "some", "rows"] (defScope s__law_right) := ⟨rfl, rfl, rfl, by decide +kernel, rfl, by decide +kernel, by decide +kernel⟩
theorem b__law_right {P : Program} {w : World} {K : PySem.W.Frag} {mg : Str → Option Value} {base : Heap} {f : Addr} {cdv : Value} {A : Around} {outer : List Env} {s : Shared} {H : Hp} {E : XK} {B : Ba} (d__law_is_spread : Def P w K mg base CX0 3 "_law_is_spread" [] 3 S__law_is_spread) (m_range : mg "range" = none) (d_spread_right : Def P w K mg base CX0 4 "spread_right" [] 3 S_spread_right) (m_isinstance : mg "isinstance" = none) (m_bool : mg "bool" = none)
    (hr : Room 4 (A.deeper (envOfC "_law_right" (defScope s__law_right) s.heap.objs.size f cdv))) (hgd : A.guards = some []) : DSs (cxOf CX0 P w K mg base N__law_right "_law_right" (defScope s__law_right) f cdv A outer s H E) B [] (defBody s__law_right) t__law_right :=
  have hu : A.units + 3 + 100 < cLine := un0 hr
  have hN := sc__law_right.nd
  dss_nox (dss_cons (ds_set 3 hN rfl rfl (by first | exact .inl rfl | exact .inr rfl) (de_frz (de_call d__law_is_spread len__law_is_spread hr hgd (by decide) rfl (da_cons (de_sub' (de_var 0) de_int) (da_cons (de_var 1) (da_cons (de_var 2) da_nil)))))) (dss_cons (ds_setLc [] 4 (fun _ _ _ h => le_frz h) rfl hN rfl rfl rfl rfl (di_range1 rfl m_range (da_cons de_int da_nil)) (own := [("again", 5)]) (blk_ok (by kernel_rfl)) rfl rfl (fun _ _ _ _ _ => (dg_name 5 hN rfl rfl (by first | exact .inl rfl | exact .inr rfl))) (fun _ _ _ _ _ => dts_nil) (fun _ _ _ _ _ => (de_frz (de_call d_spread_right len_spread_right hr hgd (by decide) rfl (da_cons (de_var 0) (da_cons (de_var 1) (da_cons (de_var 2) da_nil))))))) (dss_one (ds_ret (de_eq hu (de_lc [] rfl hN (di_seq (de_var 4)) (own := [("one", 6)]) (blk_ok (by kernel_rfl)) rfl rfl (fun _ _ _ _ _ => (dg_name 6 hN rfl rfl (by first | exact .inl rfl | exact .inr rfl))) (fun _ _ _ _ _ => (dts_one (PW.pt (dw_or (dc_not (dc_val (de_isD is_bool rfl m_isinstance (da_cons (de_var 6) (da_cons (de_ty rfl m_bool (by decide +kernel)) da_nil))))) (dw_or1 (dc_ne hu (de_var 6) (de_var 3))))))) (fun _ _ _ _ _ => de_int)) (de_lst da_nil))))))

-- _law_otherwise: N = ['pool', 'both', 'points', 'some', 'rows', 'number'], lk = [0]
theorem sc__law_otherwise : FnScope N__law_otherwise ["pool", "both", "points", "some", "rows"] (defScope s__law_otherwise) := ⟨rfl, rfl, rfl, by decide +kernel, rfl, by decide +kernel, by decide +kernel⟩
theorem b__law_otherwise {P : Program} {w : World} {K : PySem.W.Frag} {mg : Str → Option Value} {base : Heap} {f : Addr} {cdv : Value} {A : Around} {outer : List Env} {s : Shared} {H : Hp} {E : XK} {B : Ba} (d__law_crossed : Def P w K mg base CX0 2 "_law_crossed" [0] 4 S__law_crossed) (d__law_twice : Def P w K mg base CX0 2 "_law_twice" [0] 3 S__law_twice) (d__law_doubled : Def P w K mg base CX0 2 "_law_doubled" [0] 3 S__law_doubled) (d__law_in_place : Def P w K mg base CX0 2 "_law_in_place" [0] 3 S__law_in_place) (d__law_beside : Def P w K mg base CX0 2 "_law_beside" [0] 3 S__law_beside) (m_tuple : mg "tuple" = none) (m_len : mg "len" = none)
    (hr : Room 2 (A.deeper (envOfC "_law_otherwise" (defScope s__law_otherwise) s.heap.objs.size f cdv))) (hgd : A.guards = some []) : DSs (cxOf CX0 P w K mg base N__law_otherwise "_law_otherwise" (defScope s__law_otherwise) f cdv A outer s H E) B [0] (defBody s__law_otherwise) t__law_otherwise :=
  have hu : A.units + 3 + 100 < cLine := un0 hr
  have hN := sc__law_otherwise.nd
  dss_nox (dss_cons (ds_if (dc_eq hu (de_var 1) de_int) (dss_one (ds_ret (de_frz (de_call d__law_crossed len__law_crossed hr hgd (by decide) rfl (da_cons (de_var 0) (da_cons (de_var 2) (da_cons (de_var 3) (da_cons (de_var 4) da_nil)))))))) dss_nil) (dss_cons (ds_if (dc_eq hu (de_var 1) de_int) (dss_one (ds_ret (de_frz (de_call d__law_twice len__law_twice hr hgd (by decide) rfl (da_cons (de_var 0) (da_cons (de_var 3) (da_cons (de_varP 4) da_nil))))))) dss_nil) (dss_cons (ds_if (dc_in hu (de_var 1) (de_tup (da_cons de_int (da_cons de_int da_nil)))) (dss_one (ds_ret (de_tup (da_cons (de_var 3) (da_cons (de_frz (de_call d__law_doubled len__law_doubled hr hgd (by decide) rfl (da_cons (de_var 0) (da_cons (de_var 2) (da_cons (de_varP 4) da_nil))))) da_nil))))) dss_nil) (dss_cons (ds_if (dc_eq hu (de_var 1) de_int) (dss_one (ds_ret (de_tup (da_cons (de_var 3) (da_cons (de_frz (de_call d__law_in_place len__law_in_place hr hgd (by decide) rfl (da_cons (de_var 0) (da_cons (de_var 2) (da_cons (de_varP 4) da_nil))))) da_nil))))) dss_nil) (dss_cons (ds_if (dc_eq hu (de_var 1) de_int) (dss_one (ds_ret (de_tup (da_cons (de_frz (de_call d__law_beside len__law_beside hr hgd (by decide) rfl (da_cons (de_var 0) (da_cons (de_var 3) (da_cons (de_var 4) da_nil))))) (da_cons (de_varP 4) da_nil))))) dss_nil) (dss_cons (ds_if (dc_eq hu (de_var 1) de_int) (dss_one (ds_ret (de_tup (da_cons (de_tuple rfl m_tuple (da_cons (de_lc [] rfl hN (di_seq (de_var 3)) (own := [("number", 5)]) (blk_ok (by kernel_rfl)) rfl rfl (fun _ _ _ _ _ => (dg_name 5 hN rfl rfl (by first | exact .inl rfl | exact .inr rfl))) (fun _ _ _ _ _ => dts_nil) (fun _ _ _ _ _ => (de_sub (de_var 5) (de_len rfl m_len (da_cons (de_var 2) da_nil))))) da_nil)) (da_cons (de_varP 4) da_nil))))) dss_nil) (dss_one (ds_ret (de_tup (da_cons (de_var 3) (da_cons (de_varP 4) da_nil)))))))))))

-- law: N = ['script', 'cell', 'pool', 'ways', 'book', 'some', 'rows', 'at', 'both', 'way', 'other', 'numbers', 'kept', 'k'], lk = []
theorem sc_law : FnScope N_law ["script"] (defScope s_law) := ⟨rfl, rfl, rfl, by decide +kernel, rfl, by decide +kernel, by decide +kernel⟩
theorem b_law {P : Program} {w : World} {K : PySem.W.Frag} {mg : Str → Option Value} {base : Heap} {f : Addr} {cdv : Value} {A : Around} {outer : List Env} {s : Shared} {H : Hp} {E : XK} {B : Ba} (d__law_folded : Def P w K mg base CX0 1 "_law_folded" [] 2 S__law_folded) (d__law_pool : Def P w K mg base CX0 1 "_law_pool" [] 1 S__law_pool) (m_range : mg "range" = none) (d__law_next : Def P w K mg base CX0 1 "_law_next" [0] 2 S__law_next) (d__law_made : Def P w K mg base CX0 4 "_law_made" [0] 2 S__law_made) (m_len : mg "len" = none) (d__law_is_spread : Def P w K mg base CX0 3 "_law_is_spread" [] 3 S__law_is_spread) (d__law_right : Def P w K mg base CX0 5 "_law_right" [] 3 S__law_right) (d__law_otherwise : Def P w K mg base CX0 3 "_law_otherwise" [0] 5 S__law_otherwise) (d__law_bent : Def P w K mg base CX0 3 "_law_bent" [0] 4 S__law_bent) (d__law_rows_bent : Def P w K mg base CX0 4 "_law_rows_bent" [0] 4 S__law_rows_bent)
    (hr : Room 5 (A.deeper (envOfC "law" (defScope s_law) s.heap.objs.size f cdv))) (hgd : A.guards = some []) : DSs (cxOf CX0 P w K mg base N_law "law" (defScope s_law) f cdv A outer s H E) B [] (defBody s_law) t_law :=
  have hu : A.units + 3 + 100 < cLine := un0 hr
  have hN := sc_law.nd
  dss_nox (dss_cons (ds_for [] .never rfl (di_seq (de_add (de_lst (da_cons de_int da_nil)) (de_call d__law_folded len__law_folded hr hgd (by decide) rfl (da_cons (de_var 0) (da_cons de_int da_nil))))) (dg_name 1 hN rfl rfl (by first | exact .inl rfl | exact .inr rfl)) (dss_cons (ds_set 2 hN rfl rfl (by first | exact .inl rfl | exact .inr rfl) (de_call d__law_pool len__law_pool hr hgd (by decide) rfl (da_cons (de_var 1) da_nil))) (dss_cons (ds_setLc [] 3 (fun _ _ _ h => le_frz h) rfl hN rfl rfl rfl rfl (di_range1 rfl m_range (da_cons de_int da_nil)) (own := [("k", 13)]) (blk_ok (by kernel_rfl)) rfl rfl (fun _ _ _ _ _ => (dg_name 13 hN rfl rfl (by first | exact .inl rfl | exact .inr rfl))) (fun _ _ _ _ _ => dts_nil) (fun _ _ _ _ _ => (de_tup (da_cons (de_frz (de_call d__law_next len__law_next hr hgd (by decide) rfl (da_cons (de_var 2) (da_cons de_int da_nil)))) (da_cons (de_frz (de_call d__law_next len__law_next hr hgd (by decide) rfl (da_cons (de_var 2) (da_cons de_int da_nil)))) (da_cons (de_frz (de_call d__law_next len__law_next hr hgd (by decide) rfl (da_cons (de_var 2) (da_cons de_int da_nil)))) da_nil)))))) (dss_cons (ds_asg (de_frz (de_call d__law_made len__law_made hr hgd (by decide) rfl (da_cons (de_var 2) (da_cons (de_frz (de_add de_int (de_call d__law_next len__law_next hr hgd (by decide) rfl (da_cons (de_var 2) (da_cons de_int da_nil))))) da_nil)))) (dg_tup rfl (dgs_cons (dg_name 4 hN rfl rfl (by first | exact .inl rfl | exact .inr rfl)) (dgs_cons (dg_name 5 hN rfl rfl (by first | exact .inl rfl | exact .inr rfl)) (dgs_cons (dg_name 6 hN rfl rfl (by first | exact .inl rfl | exact .inr rfl)) dgs_nil))))) (dss_cons (ds_set 7 hN rfl rfl (by first | exact .inl rfl | exact .inr rfl) (de_frz (de_call d__law_next len__law_next hr hgd (by decide) rfl (da_cons (de_var 2) (da_cons (de_add (de_len rfl m_len (da_cons (de_varP 6) da_nil)) de_int) da_nil))))) (dss_cons (ds_if (PW.pt (dw_or (dc_not (dc_val (de_call d__law_is_spread len__law_is_spread hr hgd (by decide) rfl (da_cons (de_sub' (de_var 4) de_int) (da_cons (de_var 5) (da_cons (de_varP 6) da_nil)))))) (dw_or1 (dc_not (dc_val (de_call d__law_right len__law_right hr hgd (by decide) rfl (da_cons (de_var 4) (da_cons (de_var 5) (da_cons (de_varP 6) da_nil))))))))) (dss_one (ds_ret de_bl)) dss_nil) (dss_cons (ds_if (dc_not (dc_val (de_call d__law_right len__law_right hr hgd (by decide) rfl (da_cons (de_var 4) (da_cons (de_var 5) (da_cons (de_frz (de_add (de_slice (de_varP 6) (do_at (de_var 7)) do_no) (de_slice (de_varP 6) do_no (do_at (de_var 7))))) da_nil)))))) (dss_one (ds_ret de_bl)) dss_nil) (dss_one (ds_for [] .never rfl (di_seq (de_var 3)) (dg_tup rfl (dgs_cons (dg_name 8 hN rfl rfl (by first | exact .inl rfl | exact .inr rfl)) (dgs_cons (dg_name 9 hN rfl rfl (by first | exact .inl rfl | exact .inr rfl)) (dgs_cons (dg_name 10 hN rfl rfl (by first | exact .inl rfl | exact .inr rfl)) dgs_nil)))) (dss_cons (ds_asg (de_frz (de_call d__law_otherwise len__law_otherwise hr hgd (by decide) rfl (da_cons (de_var 2) (da_cons (de_var 8) (da_cons (de_sub' (de_var 4) de_int) (da_cons (de_var 5) (da_cons (de_var 6) da_nil))))))) (dg_tup rfl (dgs_cons (dg_name 11 hN rfl rfl (by first | exact .inl rfl | exact .inr rfl)) (dgs_cons (dg_name 12 hN rfl rfl (by first | exact .inl rfl | exact .inr rfl)) dgs_nil)))) (dss_cons (ds_if (dc_in hu (de_var 8) (de_tup (da_cons de_int (da_cons de_int da_nil)))) (dss_one (ds_set 11 hN rfl rfl (by first | exact .inl rfl | exact .inr rfl) (de_frz (de_call d__law_bent len__law_bent hr hgd (by decide) rfl (da_cons (de_var 2) (da_cons (de_var 9) (da_cons (de_var 5) (da_cons (de_len rfl m_len (da_cons (de_sub' (de_var 4) de_int) da_nil)) da_nil)))))))) dss_nil) (dss_cons (ds_if (dc_in hu (de_var 8) (de_tup (da_cons de_int (da_cons de_int da_nil)))) (dss_one (ds_set 12 hN rfl rfl (by first | exact .inl rfl | exact .inr rfl) (de_frz (de_call d__law_rows_bent len__law_rows_bent hr hgd (by decide) rfl (da_cons (de_var 2) (da_cons (de_var 10) (da_cons (de_varP 6) (da_cons (de_len rfl m_len (da_cons (de_sub' (de_var 4) de_int) da_nil)) da_nil)))))))) dss_nil) (dss_one (ds_if (PW.pt (dw_or (dc_not (dc_val (de_call d__law_right len__law_right hr hgd (by decide) rfl (da_cons (de_var 4) (da_cons (de_var 11) (da_cons (de_var 12) da_nil)))))) (dw_or1 (dc_not (dc_val (de_call d__law_right len__law_right hr hgd (by decide) rfl (da_cons (de_var 4) (da_cons (de_var 5) (da_cons (de_varP 6) da_nil))))))))) (dss_one (ds_ret de_bl)) dss_nil)))))))))))))) (dss_one (ds_ret de_bl)))

/-! ### each def keeps its promise -/
theorem ok_is_whole {P : Program} {w : World} {K : PySem.W.Frag} {mg : Str → Option Value} {base : Heap} {f : Addr} {fd : FuncData} (F : FunD K "is_whole" "is_whole" (defArgs s_is_whole) (defBody s_is_whole) (defScope s_is_whole) [] [] f fd) (hm : mg "is_whole" = some (.ref f)) (m_isinstance : mg "isinstance" = none) (m_int : mg "int" = none) (m_bool : mg "bool" = none) : Def P w K mg base CX0 1 "is_whole" [] 1 S_is_whole :=
  ⟨⟨f, fd, ["thing"], hm, def_run F sc_is_whole rfl (by decide) t_is_whole (fun cdv A outer s H E B hr hgd => b_is_whole m_isinstance m_int m_bool hr hgd) r_is_whole, F.bindsN fun _ _ _ _ _ _ us hl => match us, hl with | [_], _ => rfl, F.kp⟩⟩
theorem ok_is_within {P : Program} {w : World} {K : PySem.W.Frag} {mg : Str → Option Value} {base : Heap} {f : Addr} {fd : FuncData} (F : FunD K "is_within" "is_within" (defArgs s_is_within) (defBody s_is_within) (defScope s_is_within) [] [] f fd) (hm : mg "is_within" = some (.ref f)) (d_is_whole : Def P w K mg base CX0 1 "is_whole" [] 1 S_is_whole) : Def P w K mg base CX0 2 "is_within" [] 3 S_is_within :=
  ⟨⟨f, fd, ["thing", "low", "high"], hm, def_run F sc_is_within rfl (by decide) t_is_within (fun cdv A outer s H E B hr hgd => b_is_within d_is_whole hr hgd) r_is_within, F.bindsN fun _ _ _ _ _ _ us hl => match us, hl with | [_, _, _], _ => rfl, F.kp⟩⟩
theorem ok_is_over {P : Program} {w : World} {K : PySem.W.Frag} {mg : Str → Option Value} {base : Heap} {f : Addr} {fd : FuncData} (F : FunD K "is_over" "is_over" (defArgs s_is_over) (defBody s_is_over) (defScope s_is_over) [] [] f fd) (hm : mg "is_over" = some (.ref f)) (m_all : mg "all" = none) (m_zip : mg "zip" = none) : Def P w K mg base CX0 1 "is_over" [] 2 S_is_over :=
  ⟨⟨f, fd, ["one", "other"], hm, def_run F sc_is_over rfl (by decide) t_is_over (fun cdv A outer s H E B hr hgd => b_is_over m_all m_zip hr hgd) r_is_over, F.bindsN fun _ _ _ _ _ _ us hl => match us, hl with | [_, _], _ => rfl, F.kp⟩⟩
theorem ok_does_beat {P : Program} {w : World} {K : PySem.W.Frag} {mg : Str → Option Value} {base : Heap} {f : Addr} {fd : FuncData} (F : FunD K "does_beat" "does_beat" (defArgs s_does_beat) (defBody s_does_beat) (defScope s_does_beat) [] [] f fd) (hm : mg "does_beat" = some (.ref f)) (d_is_over : Def P w K mg base CX0 1 "is_over" [] 2 S_is_over) : Def P w K mg base CX0 2 "does_beat" [] 2 S_does_beat :=
  ⟨⟨f, fd, ["one", "other"], hm, def_run F sc_does_beat rfl (by decide) t_does_beat (fun cdv A outer s H E B hr hgd => b_does_beat d_is_over hr hgd) r_does_beat, F.bindsN fun _ _ _ _ _ _ us hl => match us, hl with | [_, _], _ => rfl, F.kp⟩⟩
theorem ok_is_rising {P : Program} {w : World} {K : PySem.W.Frag} {mg : Str → Option Value} {base : Heap} {f : Addr} {fd : FuncData} (F : FunD K "is_rising" "is_rising" (defArgs s_is_rising) (defBody s_is_rising) (defScope s_is_rising) [] [] f fd) (hm : mg "is_rising" = some (.ref f)) (m_all : mg "all" = none) (d_is_within : Def P w K mg base CX0 2 "is_within" [] 3 S_is_within) (m_zip : mg "zip" = none) : Def P w K mg base CX0 3 "is_rising" [] 2 S_is_rising :=
  ⟨⟨f, fd, ["numbers", "many"], hm, def_run F sc_is_rising rfl (by decide) t_is_rising (fun cdv A outer s H E B hr hgd => b_is_rising m_all d_is_within m_zip hr hgd) r_is_rising, F.bindsN fun _ _ _ _ _ _ us hl => match us, hl with | [_, _], _ => rfl, F.kp⟩⟩
theorem ok_is_row {P : Program} {w : World} {K : PySem.W.Frag} {mg : Str → Option Value} {base : Heap} {f : Addr} {fd : FuncData} (F : FunD K "is_row" "is_row" (defArgs s_is_row) (defBody s_is_row) (defScope s_is_row) [] [] f fd) (hm : mg "is_row" = some (.ref f)) (m_all : mg "all" = none) (d_is_within : Def P w K mg base CX0 2 "is_within" [] 3 S_is_within) (m_len : mg "len" = none) (m_zip : mg "zip" = none) (d_does_beat : Def P w K mg base CX0 2 "does_beat" [] 2 S_does_beat) : Def P w K mg base CX0 3 "is_row" [] 2 S_is_row :=
  ⟨⟨f, fd, ["book", "thing"], hm, def_run F sc_is_row rfl (by decide) t_is_row (fun cdv A outer s H E B hr hgd => b_is_row m_all d_is_within m_len m_zip d_does_beat hr hgd) r_is_row, F.bindsN fun _ _ _ _ _ _ us hl => match us, hl with | [_, _], _ => rfl, F.kp⟩⟩
theorem ok_are_apart {P : Program} {w : World} {K : PySem.W.Frag} {mg : Str → Option Value} {base : Heap} {f : Addr} {fd : FuncData} (F : FunD K "are_apart" "are_apart" (defArgs s_are_apart) (defBody s_are_apart) (defScope s_are_apart) [] [] f fd) (hm : mg "are_apart" = some (.ref f)) (m_any : mg "any" = none) (d_does_beat : Def P w K mg base CX0 2 "does_beat" [] 2 S_does_beat) : Def P w K mg base CX0 3 "are_apart" [] 2 S_are_apart :=
  ⟨⟨f, fd, ["points", "some"], hm, def_run F sc_are_apart rfl (by decide) t_are_apart (fun cdv A outer s H E B hr hgd => b_are_apart m_any d_does_beat hr hgd) r_are_apart, F.bindsN fun _ _ _ _ _ _ us hl => match us, hl with | [_, _], _ => rfl, F.kp⟩⟩
theorem ok_spread_right {P : Program} {w : World} {K : PySem.W.Frag} {mg : Str → Option Value} {base : Heap} {f : Addr} {fd : FuncData} (F : FunD K "spread_right" "spread_right" (defArgs s_spread_right) (defBody s_spread_right) (defScope s_spread_right) [] [] f fd) (hm : mg "spread_right" = some (.ref f)) (d_is_rising : Def P w K mg base CX0 3 "is_rising" [] 2 S_is_rising) (m_len : mg "len" = none) (d_are_apart : Def P w K mg base CX0 3 "are_apart" [] 2 S_are_apart) (m_all : mg "all" = none) (d_is_row : Def P w K mg base CX0 3 "is_row" [] 2 S_is_row) (m_sorted : mg "sorted" = none) (m_list : mg "list" = none) (m_range : mg "range" = none) : Def P w K mg base CX0 4 "spread_right" [] 3 S_spread_right :=
  ⟨⟨f, fd, ["book", "some", "rows"], hm, def_run F sc_spread_right rfl (by decide) t_spread_right (fun cdv A outer s H E B hr hgd => b_spread_right d_is_rising m_len d_are_apart m_all d_is_row m_sorted m_list m_range hr hgd) r_spread_right, F.bindsN fun _ _ _ _ _ _ us hl => match us, hl with | [_, _, _], _ => rfl, F.kp⟩⟩
theorem ok__law_pool {P : Program} {w : World} {K : PySem.W.Frag} {mg : Str → Option Value} {base : Heap} {f : Addr} {fd : FuncData} (F : FunD K "_law_pool" "_law_pool" (defArgs s__law_pool) (defBody s__law_pool) (defScope s__law_pool) [] [] f fd) (hm : mg "_law_pool" = some (.ref f)) (m_max : mg "max" = none) : Def P w K mg base CX0 1 "_law_pool" [] 1 S__law_pool :=
  ⟨⟨f, fd, ["cell"], hm, def_run F sc__law_pool rfl (by decide) t__law_pool (fun cdv A outer s H E B hr hgd => b__law_pool m_max hr hgd) r__law_pool, F.bindsN fun _ _ _ _ _ _ us hl => match us, hl with | [_], _ => rfl, F.kp⟩⟩
theorem ok__law_next {P : Program} {w : World} {K : PySem.W.Frag} {mg : Str → Option Value} {base : Heap} {f : Addr} {fd : FuncData} (F : FunD K "_law_next" "_law_next" (defArgs s__law_next) (defBody s__law_next) (defScope s__law_next) [] [] f fd) (hm : mg "_law_next" = some (.ref f))  : Def P w K mg base CX0 1 "_law_next" [0] 2 S__law_next :=
  ⟨⟨f, fd, ["pool", "base"], hm, def_run F sc__law_next rfl (by decide) t__law_next (fun cdv A outer s H E B hr hgd => b__law_next  hr hgd) r__law_next, F.bindsN fun _ _ _ _ _ _ us hl => match us, hl with | [_, _], _ => rfl, F.kp⟩⟩
theorem ok__law_folded {P : Program} {w : World} {K : PySem.W.Frag} {mg : Str → Option Value} {base : Heap} {f : Addr} {fd : FuncData} (F : FunD K "_law_folded" "_law_folded" (defArgs s__law_folded) (defBody s__law_folded) (defScope s__law_folded) [] [] f fd) (hm : mg "_law_folded" = some (.ref f)) (m_range : mg "range" = none) (m_len : mg "len" = none) (m_min : mg "min" = none) : Def P w K mg base CX0 1 "_law_folded" [] 2 S__law_folded :=
  ⟨⟨f, fd, ["script", "most"], hm, def_run F sc__law_folded rfl (by decide) t__law_folded (fun cdv A outer s H E B hr hgd => b__law_folded m_range m_len m_min hr hgd) r__law_folded, F.bindsN fun _ _ _ _ _ _ us hl => match us, hl with | [_, _], _ => rfl, F.kp⟩⟩
theorem ok__law_number {P : Program} {w : World} {K : PySem.W.Frag} {mg : Str → Option Value} {base : Heap} {f : Addr} {fd : FuncData} (F : FunD K "_law_number" "_law_number" (defArgs s__law_number) (defBody s__law_number) (defScope s__law_number) [] [] f fd) (hm : mg "_law_number" = some (.ref f)) (d__law_next : Def P w K mg base CX0 1 "_law_next" [0] 2 S__law_next) (m_min : mg "min" = none) : Def P w K mg base CX0 2 "_law_number" [0] 2 S__law_number :=
  ⟨⟨f, fd, ["pool", "size"], hm, def_run F sc__law_number rfl (by decide) t__law_number (fun cdv A outer s H E B hr hgd => b__law_number d__law_next m_min hr hgd) r__law_number, F.bindsN fun _ _ _ _ _ _ us hl => match us, hl with | [_, _], _ => rfl, F.kp⟩⟩
theorem ok__law_shaped {P : Program} {w : World} {K : PySem.W.Frag} {mg : Str → Option Value} {base : Heap} {f : Addr} {fd : FuncData} (F : FunD K "_law_shaped" "_law_shaped" (defArgs s__law_shaped) (defBody s__law_shaped) (defScope s__law_shaped) [] [] f fd) (hm : mg "_law_shaped" = some (.ref f)) (m_tuple : mg "tuple" = none) (d__law_number : Def P w K mg base CX0 2 "_law_number" [0] 2 S__law_number) (d__law_next : Def P w K mg base CX0 1 "_law_next" [0] 2 S__law_next) (m_max : mg "max" = none) (m_len : mg "len" = none) : Def P w K mg base CX0 3 "_law_shaped" [0] 5 S__law_shaped :=
  ⟨⟨f, fd, ["pool", "shape", "size", "last", "k"], hm, def_run F sc__law_shaped rfl (by decide) t__law_shaped (fun cdv A outer s H E B hr hgd => b__law_shaped m_tuple d__law_number d__law_next m_max m_len hr hgd) r__law_shaped, F.bindsN fun _ _ _ _ _ _ us hl => match us, hl with | [_, _, _, _, _], _ => rfl, F.kp⟩⟩
theorem ok__law_points {P : Program} {w : World} {K : PySem.W.Frag} {mg : Str → Option Value} {base : Heap} {f : Addr} {fd : FuncData} (F : FunD K "_law_points" "_law_points" (defArgs s__law_points) (defBody s__law_points) (defScope s__law_points) [] [] f fd) (hm : mg "_law_points" = some (.ref f)) (d__law_next : Def P w K mg base CX0 1 "_law_next" [0] 2 S__law_next) (m_range : mg "range" = none) (d__law_shaped : Def P w K mg base CX0 3 "_law_shaped" [0] 5 S__law_shaped) (m_len : mg "len" = none) (m_tuple : mg "tuple" = none) : Def P w K mg base CX0 4 "_law_points" [0] 3 S__law_points :=
  ⟨⟨f, fd, ["pool", "measures", "most"], hm, def_run F sc__law_points rfl (by decide) t__law_points (fun cdv A outer s H E B hr hgd => b__law_points d__law_next m_range d__law_shaped m_len m_tuple hr hgd) r__law_points, F.bindsN fun _ _ _ _ _ _ us hl => match us, hl with | [_, _, _], _ => rfl, F.kp⟩⟩
theorem ok__law_over {P : Program} {w : World} {K : PySem.W.Frag} {mg : Str → Option Value} {base : Heap} {f : Addr} {fd : FuncData} (F : FunD K "_law_over" "_law_over" (defArgs s__law_over) (defBody s__law_over) (defScope s__law_over) [] [] f fd) (hm : mg "_law_over" = some (.ref f)) (m_zip : mg "zip" = none) : Def P w K mg base CX0 1 "_law_over" [] 2 S__law_over :=
  ⟨⟨f, fd, ["one", "other"], hm, def_run F sc__law_over rfl (by decide) t__law_over (fun cdv A outer s H E B hr hgd => b__law_over m_zip hr hgd) r__law_over, F.bindsN fun _ _ _ _ _ _ us hl => match us, hl with | [_, _], _ => rfl, F.kp⟩⟩
theorem ok__law_column {P : Program} {w : World} {K : PySem.W.Frag} {mg : Str → Option Value} {base : Heap} {f : Addr} {fd : FuncData} (F : FunD K "_law_column" "_law_column" (defArgs s__law_column) (defBody s__law_column) (defScope s__law_column) [] [] f fd) (hm : mg "_law_column" = some (.ref f)) (m_range : mg "range" = none) (m_tuple : mg "tuple" = none) (d__law_next : Def P w K mg base CX0 1 "_law_next" [0] 2 S__law_next) (m_len : mg "len" = none) (m_max : mg "max" = none) (m_int : mg "int" = none) (m_zip : mg "zip" = none) : Def P w K mg base CX0 2 "_law_column" [0] 3 S__law_column :=
  ⟨⟨f, fd, ["pool", "base", "many"], hm, def_run F sc__law_column rfl (by decide) t__law_column (fun cdv A outer s H E B hr hgd => b__law_column m_range m_tuple d__law_next m_len m_max m_int m_zip hr hgd) r__law_column, F.bindsN fun _ _ _ _ _ _ us hl => match us, hl with | [_, _, _], _ => rfl, F.kp⟩⟩
theorem ok__law_columns {P : Program} {w : World} {K : PySem.W.Frag} {mg : Str → Option Value} {base : Heap} {f : Addr} {fd : FuncData} (F : FunD K "_law_columns" "_law_columns" (defArgs s__law_columns) (defBody s__law_columns) (defScope s__law_columns) [] [] f fd) (hm : mg "_law_columns" = some (.ref f)) (m_range : mg "range" = none) (d__law_next : Def P w K mg base CX0 1 "_law_next" [0] 2 S__law_next) (m_tuple : mg "tuple" = none) (m_min : mg "min" = none) (d__law_column : Def P w K mg base CX0 2 "_law_column" [0] 3 S__law_column) : Def P w K mg base CX0 3 "_law_columns" [0] 2 S__law_columns :=
  ⟨⟨f, fd, ["pool", "measures"], hm, def_run F sc__law_columns rfl (by decide) t__law_columns (fun cdv A outer s H E B hr hgd => b__law_columns m_range d__law_next m_tuple m_min d__law_column hr hgd) r__law_columns, F.bindsN fun _ _ _ _ _ _ us hl => match us, hl with | [_, _], _ => rfl, F.kp⟩⟩
theorem ok__law_made {P : Program} {w : World} {K : PySem.W.Frag} {mg : Str → Option Value} {base : Heap} {f : Addr} {fd : FuncData} (F : FunD K "_law_made" "_law_made" (defArgs s__law_made) (defBody s__law_made) (defScope s__law_made) [] [] f fd) (hm : mg "_law_made" = some (.ref f)) (d__law_columns : Def P w K mg base CX0 3 "_law_columns" [0] 2 S__law_columns) (m_enumerate : mg "enumerate" = none) (m_range : mg "range" = none) (m_len : mg "len" = none) (d__law_next : Def P w K mg base CX0 1 "_law_next" [0] 2 S__law_next) (m_tuple : mg "tuple" = none) (m_zip : mg "zip" = none) (m_sorted : mg "sorted" = none) : Def P w K mg base CX0 4 "_law_made" [0] 2 S__law_made :=
  ⟨⟨f, fd, ["pool", "measures"], hm, def_run F sc__law_made rfl (by decide) t__law_made (fun cdv A outer s H E B hr hgd => b__law_made d__law_columns m_enumerate m_range m_len d__law_next m_tuple m_zip m_sorted hr hgd) r__law_made, F.bindsN fun _ _ _ _ _ _ us hl => match us, hl with | [_, _], _ => rfl, F.kp⟩⟩
theorem ok__law_odd {P : Program} {w : World} {K : PySem.W.Frag} {mg : Str → Option Value} {base : Heap} {f : Addr} {fd : FuncData} (F : FunD K "_law_odd" "_law_odd" (defArgs s__law_odd) (defBody s__law_odd) (defScope s__law_odd) [] [] f fd) (hm : mg "_law_odd" = some (.ref f)) (d__law_next : Def P w K mg base CX0 1 "_law_next" [0] 2 S__law_next) : Def P w K mg base CX0 2 "_law_odd" [0] 2 S__law_odd :=
  ⟨⟨f, fd, ["pool", "many"], hm, def_run F sc__law_odd rfl (by decide) t__law_odd (fun cdv A outer s H E B hr hgd => b__law_odd d__law_next hr hgd) r__law_odd, F.bindsN fun _ _ _ _ _ _ us hl => match us, hl with | [_, _], _ => rfl, F.kp⟩⟩
theorem ok__law_bent {P : Program} {w : World} {K : PySem.W.Frag} {mg : Str → Option Value} {base : Heap} {f : Addr} {fd : FuncData} (F : FunD K "_law_bent" "_law_bent" (defArgs s__law_bent) (defBody s__law_bent) (defScope s__law_bent) [] [] f fd) (hm : mg "_law_bent" = some (.ref f)) (d__law_next : Def P w K mg base CX0 1 "_law_next" [0] 2 S__law_next) (m_len : mg "len" = none) (d__law_odd : Def P w K mg base CX0 2 "_law_odd" [0] 2 S__law_odd) : Def P w K mg base CX0 3 "_law_bent" [0] 4 S__law_bent :=
  ⟨⟨f, fd, ["pool", "way", "numbers", "many"], hm, def_run F sc__law_bent rfl (by decide) t__law_bent (fun cdv A outer s H E B hr hgd => b__law_bent d__law_next m_len d__law_odd hr hgd) r__law_bent, F.bindsN fun _ _ _ _ _ _ us hl => match us, hl with | [_, _, _, _], _ => rfl, F.kp⟩⟩
theorem ok__law_rows_bent {P : Program} {w : World} {K : PySem.W.Frag} {mg : Str → Option Value} {base : Heap} {f : Addr} {fd : FuncData} (F : FunD K "_law_rows_bent" "_law_rows_bent" (defArgs s__law_rows_bent) (defBody s__law_rows_bent) (defScope s__law_rows_bent) [] [] f fd) (hm : mg "_law_rows_bent" = some (.ref f)) (d__law_next : Def P w K mg base CX0 1 "_law_next" [0] 2 S__law_next) (m_len : mg "len" = none) (d__law_bent : Def P w K mg base CX0 3 "_law_bent" [0] 4 S__law_bent) (m_tuple : mg "tuple" = none) (m_list : mg "list" = none) (m_range : mg "range" = none) : Def P w K mg base CX0 4 "_law_rows_bent" [0] 4 S__law_rows_bent :=
  ⟨⟨f, fd, ["pool", "way", "rows", "many"], hm, def_run F sc__law_rows_bent rfl (by decide) t__law_rows_bent (fun cdv A outer s H E B hr hgd => b__law_rows_bent d__law_next m_len d__law_bent m_tuple m_list m_range hr hgd) r__law_rows_bent, F.bindsN fun _ _ _ _ _ _ us hl => match us, hl with | [_, _, _, _], _ => rfl, F.kp⟩⟩
theorem ok__law_mids {P : Program} {w : World} {K : PySem.W.Frag} {mg : Str → Option Value} {base : Heap} {f : Addr} {fd : FuncData} (F : FunD K "_law_mids" "_law_mids" (defArgs s__law_mids) (defBody s__law_mids) (defScope s__law_mids) [] [] f fd) (hm : mg "_law_mids" = some (.ref f))  : Def P w K mg base CX0 1 "_law_mids" [] 2 S__law_mids :=
  ⟨⟨f, fd, ["some", "rows"], hm, def_run F sc__law_mids rfl (by decide) t__law_mids (fun cdv A outer s H E B hr hgd => b__law_mids  hr hgd) r__law_mids, F.bindsN fun _ _ _ _ _ _ us hl => match us, hl with | [_, _], _ => rfl, F.kp⟩⟩
theorem ok__law_doubled {P : Program} {w : World} {K : PySem.W.Frag} {mg : Str → Option Value} {base : Heap} {f : Addr} {fd : FuncData} (F : FunD K "_law_doubled" "_law_doubled" (defArgs s__law_doubled) (defBody s__law_doubled) (defScope s__law_doubled) [] [] f fd) (hm : mg "_law_doubled" = some (.ref f)) (m_enumerate : mg "enumerate" = none) (m_range : mg "range" = none) (m_len : mg "len" = none) (d__law_over : Def P w K mg base CX0 1 "_law_over" [] 2 S__law_over) (d__law_next : Def P w K mg base CX0 1 "_law_next" [0] 2 S__law_next) : Def P w K mg base CX0 2 "_law_doubled" [0] 3 S__law_doubled :=
  ⟨⟨f, fd, ["pool", "points", "rows"], hm, def_run F sc__law_doubled rfl (by decide) t__law_doubled (fun cdv A outer s H E B hr hgd => b__law_doubled m_enumerate m_range m_len d__law_over d__law_next hr hgd) r__law_doubled, F.bindsN fun _ _ _ _ _ _ us hl => match us, hl with | [_, _, _], _ => rfl, F.kp⟩⟩
theorem ok__law_in_place {P : Program} {w : World} {K : PySem.W.Frag} {mg : Str → Option Value} {base : Heap} {f : Addr} {fd : FuncData} (F : FunD K "_law_in_place" "_law_in_place" (defArgs s__law_in_place) (defBody s__law_in_place) (defScope s__law_in_place) [] [] f fd) (hm : mg "_law_in_place" = some (.ref f)) (m_enumerate : mg "enumerate" = none) (m_range : mg "range" = none) (m_len : mg "len" = none) (d__law_over : Def P w K mg base CX0 1 "_law_over" [] 2 S__law_over) (d__law_next : Def P w K mg base CX0 1 "_law_next" [0] 2 S__law_next) : Def P w K mg base CX0 2 "_law_in_place" [0] 3 S__law_in_place :=
  ⟨⟨f, fd, ["pool", "points", "rows"], hm, def_run F sc__law_in_place rfl (by decide) t__law_in_place (fun cdv A outer s H E B hr hgd => b__law_in_place m_enumerate m_range m_len d__law_over d__law_next hr hgd) r__law_in_place, F.bindsN fun _ _ _ _ _ _ us hl => match us, hl with | [_, _, _], _ => rfl, F.kp⟩⟩
theorem ok__law_beside {P : Program} {w : World} {K : PySem.W.Frag} {mg : Str → Option Value} {base : Heap} {f : Addr} {fd : FuncData} (F : FunD K "_law_beside" "_law_beside" (defArgs s__law_beside) (defBody s__law_beside) (defScope s__law_beside) [] [] f fd) (hm : mg "_law_beside" = some (.ref f)) (d__law_mids : Def P w K mg base CX0 1 "_law_mids" [] 2 S__law_mids) (m_enumerate : mg "enumerate" = none) (m_max : mg "max" = none) (m_len : mg "len" = none) (d__law_next : Def P w K mg base CX0 1 "_law_next" [0] 2 S__law_next) (m_tuple : mg "tuple" = none) (m_sorted : mg "sorted" = none) : Def P w K mg base CX0 2 "_law_beside" [0] 3 S__law_beside :=
  ⟨⟨f, fd, ["pool", "some", "rows"], hm, def_run F sc__law_beside rfl (by decide) t__law_beside (fun cdv A outer s H E B hr hgd => b__law_beside d__law_mids m_enumerate m_max m_len d__law_next m_tuple m_sorted hr hgd) r__law_beside, F.bindsN fun _ _ _ _ _ _ us hl => match us, hl with | [_, _, _], _ => rfl, F.kp⟩⟩
theorem ok__law_crossed {P : Program} {w : World} {K : PySem.W.Frag} {mg : Str → Option Value} {base : Heap} {f : Addr} {fd : FuncData} (F : FunD K "_law_crossed" "_law_crossed" (defArgs s__law_crossed) (defBody s__law_crossed) (defScope s__law_crossed) [] [] f fd) (hm : mg "_law_crossed" = some (.ref f)) (d__law_mids : Def P w K mg base CX0 1 "_law_mids" [] 2 S__law_mids) (m_range : mg "range" = none) (m_len : mg "len" = none) (d__law_next : Def P w K mg base CX0 1 "_law_next" [0] 2 S__law_next) (m_tuple : mg "tuple" = none) : Def P w K mg base CX0 2 "_law_crossed" [0] 4 S__law_crossed :=
  ⟨⟨f, fd, ["pool", "points", "some", "rows"], hm, def_run F sc__law_crossed rfl (by decide) t__law_crossed (fun cdv A outer s H E B hr hgd => b__law_crossed d__law_mids m_range m_len d__law_next m_tuple hr hgd) r__law_crossed, F.bindsN fun _ _ _ _ _ _ us hl => match us, hl with | [_, _, _, _], _ => rfl, F.kp⟩⟩
theorem ok__law_twice {P : Program} {w : World} {K : PySem.W.Frag} {mg : Str → Option Value} {base : Heap} {f : Addr} {fd : FuncData} (F : FunD K "_law_twice" "_law_twice" (defArgs s__law_twice) (defBody s__law_twice) (defScope s__law_twice) [] [] f fd) (hm : mg "_law_twice" = some (.ref f)) (m_range : mg "range" = none) (m_len : mg "len" = none) (d__law_next : Def P w K mg base CX0 1 "_law_next" [0] 2 S__law_next) : Def P w K mg base CX0 2 "_law_twice" [0] 3 S__law_twice :=
  ⟨⟨f, fd, ["pool", "some", "rows"], hm, def_run F sc__law_twice rfl (by decide) t__law_twice (fun cdv A outer s H E B hr hgd => b__law_twice m_range m_len d__law_next hr hgd) r__law_twice, F.bindsN fun _ _ _ _ _ _ us hl => match us, hl with | [_, _, _], _ => rfl, F.kp⟩⟩
theorem ok__law_falls {P : Program} {w : World} {K : PySem.W.Frag} {mg : Str → Option Value} {base : Heap} {f : Addr} {fd : FuncData} (F : FunD K "_law_falls" "_law_falls" (defArgs s__law_falls) (defBody s__law_falls) (defScope s__law_falls) [] [] f fd) (hm : mg "_law_falls" = some (.ref f)) (m_range : mg "range" = none) (m_len : mg "len" = none) (d__law_over : Def P w K mg base CX0 1 "_law_over" [] 2 S__law_over) : Def P w K mg base CX0 2 "_law_falls" [] 2 S__law_falls :=
  ⟨⟨f, fd, ["points", "row"], hm, def_run F sc__law_falls rfl (by decide) t__law_falls (fun cdv A outer s H E B hr hgd => b__law_falls m_range m_len d__law_over hr hgd) r__law_falls, F.bindsN fun _ _ _ _ _ _ us hl => match us, hl with | [_, _], _ => rfl, F.kp⟩⟩
theorem ok__law_clash {P : Program} {w : World} {K : PySem.W.Frag} {mg : Str → Option Value} {base : Heap} {f : Addr} {fd : FuncData} (F : FunD K "_law_clash" "_law_clash" (defArgs s__law_clash) (defBody s__law_clash) (defScope s__law_clash) [] [] f fd) (hm : mg "_law_clash" = some (.ref f)) (d__law_over : Def P w K mg base CX0 1 "_law_over" [] 2 S__law_over) : Def P w K mg base CX0 2 "_law_clash" [] 2 S__law_clash :=
  ⟨⟨f, fd, ["points", "some"], hm, def_run F sc__law_clash rfl (by decide) t__law_clash (fun cdv A outer s H E B hr hgd => b__law_clash d__law_over hr hgd) r__law_clash, F.bindsN fun _ _ _ _ _ _ us hl => match us, hl with | [_, _], _ => rfl, F.kp⟩⟩
theorem ok__law_is_spread {P : Program} {w : World} {K : PySem.W.Frag} {mg : Str → Option Value} {base : Heap} {f : Addr} {fd : FuncData} (F : FunD K "_law_is_spread" "_law_is_spread" (defArgs s__law_is_spread) (defBody s__law_is_spread) (defScope s__law_is_spread) [] [] f fd) (hm : mg "_law_is_spread" = some (.ref f)) (m_list : mg "list" = none) (m_len : mg "len" = none) (m_sorted : mg "sorted" = none) (m_set : mg "set" = none) (d__law_clash : Def P w K mg base CX0 2 "_law_clash" [] 2 S__law_clash) (d__law_falls : Def P w K mg base CX0 2 "_law_falls" [] 2 S__law_falls) (m_range : mg "range" = none) : Def P w K mg base CX0 3 "_law_is_spread" [] 3 S__law_is_spread :=
  ⟨⟨f, fd, ["points", "some", "rows"], hm, def_run F sc__law_is_spread rfl (by decide) t__law_is_spread (fun cdv A outer s H E B hr hgd => b__law_is_spread m_list m_len m_sorted m_set d__law_clash d__law_falls m_range hr hgd) r__law_is_spread, F.bindsN fun _ _ _ _ _ _ us hl => match us, hl with | [_, _, _], _ => rfl, F.kp⟩⟩
theorem ok__law_right {P : Program} {w : World} {K : PySem.W.Frag} {mg : Str → Option Value} {base : Heap} {f : Addr} {fd : FuncData} (F : FunD K "_law_right" "_law_right" (defArgs s__law_right) (defBody s__law_right) (defScope s__law_right) [] [] f fd) (hm : mg "_law_right" = some (.ref f)) (d__law_is_spread : Def P w K mg base CX0 3 "_law_is_spread" [] 3 S__law_is_spread) (m_range : mg "range" = none) (d_spread_right : Def P w K mg base CX0 4 "spread_right" [] 3 S_spread_right) (m_isinstance : mg "isinstance" = none) (m_bool : mg "bool" = none) : Def P w K mg base CX0 5 "_law_right" [] 3 S__law_right :=
  ⟨⟨f, fd, ["book", "some", "rows"], hm, def_run F sc__law_right rfl (by decide) t__law_right (fun cdv A outer s H E B hr hgd => b__law_right d__law_is_spread m_range d_spread_right m_isinstance m_bool hr hgd) r__law_right, F.bindsN fun _ _ _ _ _ _ us hl => match us, hl with | [_, _, _], _ => rfl, F.kp⟩⟩
theorem ok__law_otherwise {P : Program} {w : World} {K : PySem.W.Frag} {mg : Str → Option Value} {base : Heap} {f : Addr} {fd : FuncData} (F : FunD K "_law_otherwise" "_law_otherwise" (defArgs s__law_otherwise) (defBody s__law_otherwise) (defScope s__law_otherwise) [] [] f fd) (hm : mg "_law_otherwise" = some (.ref f)) (d__law_crossed : Def P w K mg base CX0 2 "_law_crossed" [0] 4 S__law_crossed) (d__law_twice : Def P w K mg base CX0 2 "_law_twice" [0] 3 S__law_twice) (d__law_doubled : Def P w K mg base CX0 2 "_law_doubled" [0] 3 S__law_doubled) (d__law_in_place : Def P w K mg base CX0 2 "_law_in_place" [0] 3 S__law_in_place) (d__law_beside : Def P w K mg base CX0 2 "_law_beside" [0] 3 S__law_beside) (m_tuple : mg "tuple" = none) (m_len : mg "len" = none) : Def P w K mg base CX0 3 "_law_otherwise" [0] 5 S__law_otherwise :=
  ⟨⟨f, fd, ["pool", "both", "points", "some", "rows"], hm, def_run F sc__law_otherwise rfl (by decide) t__law_otherwise (fun cdv A outer s H E B hr hgd => b__law_otherwise d__law_crossed d__law_twice d__law_doubled d__law_in_place d__law_beside m_tuple m_len hr hgd) r__law_otherwise, F.bindsN fun _ _ _ _ _ _ us hl => match us, hl with | [_, _, _, _, _], _ => rfl, F.kp⟩⟩
theorem ok_law {P : Program} {w : World} {K : PySem.W.Frag} {mg : Str → Option Value} {base : Heap} {f : Addr} {fd : FuncData} (F : FunD K "law" "law" (defArgs s_law) (defBody s_law) (defScope s_law) [] [] f fd) (d__law_folded : Def P w K mg base CX0 1 "_law_folded" [] 2 S__law_folded) (d__law_pool : Def P w K mg base CX0 1 "_law_pool" [] 1 S__law_pool) (m_range : mg "range" = none) (d__law_next : Def P w K mg base CX0 1 "_law_next" [0] 2 S__law_next) (d__law_made : Def P w K mg base CX0 4 "_law_made" [0] 2 S__law_made) (m_len : mg "len" = none) (d__law_is_spread : Def P w K mg base CX0 3 "_law_is_spread" [] 3 S__law_is_spread) (d__law_right : Def P w K mg base CX0 5 "_law_right" [] 3 S__law_right) (d__law_otherwise : Def P w K mg base CX0 3 "_law_otherwise" [0] 5 S__law_otherwise) (d__law_bent : Def P w K mg base CX0 3 "_law_bent" [0] 4 S__law_bent) (d__law_rows_bent : Def P w K mg base CX0 4 "_law_rows_bent" [0] 4 S__law_rows_bent) : FnG P w K mg base CX0 6 f fd ["script"] (spV K mg [] 1 (lawS 63)) := def_run F sc_law rfl (by decide) t_law (fun cdv A outer s H E B hr hgd => b_law d__law_folded d__law_pool m_range d__law_next d__law_made m_len d__law_is_spread d__law_right d__law_otherwise d__law_bent d__law_rows_bent hr hgd) r_law
theorem factsL {P : Program} {w : World} {K : PySem.W.Frag} {h : Heap} {mg : Str → Option Value} {f : Addr} (X : K.In h) (G : h.Ns mainGlobals mg) (hfa : mg ("law" : Str) = some (.ref f)) (c : He.SaysD faL fnL K) :
    ∃ fd : FuncData, (∀ (s : Shared) (v : Value), BindsTo s fd ⟨[v], []⟩ [("script", v)]) ∧ ∀ base : Heap, K.In base → base.Ns mainGlobals mg → FnG P w K mg base CX0 6 f fd ["script"] (spV K mg [] 1 (lawS 63)) := by
  obtain ⟨fd_is_whole, F_is_whole⟩ := c.def_ 0 (d := D_is_whole) rfl
  obtain ⟨fd_is_within, F_is_within⟩ := c.def_ 1 (d := D_is_within) rfl
  obtain ⟨fd_is_over, F_is_over⟩ := c.def_ 2 (d := D_is_over) rfl
  obtain ⟨fd_does_beat, F_does_beat⟩ := c.def_ 3 (d := D_does_beat) rfl
  obtain ⟨fd_is_rising, F_is_rising⟩ := c.def_ 4 (d := D_is_rising) rfl
  obtain ⟨fd_is_row, F_is_row⟩ := c.def_ 5 (d := D_is_row) rfl
  obtain ⟨fd_are_apart, F_are_apart⟩ := c.def_ 6 (d := D_are_apart) rfl
  obtain ⟨fd_spread_right, F_spread_right⟩ := c.def_ 7 (d := D_spread_right) rfl
  obtain ⟨fd__law_pool, F__law_pool⟩ := c.def_ 8 (d := D__law_pool) rfl
  obtain ⟨fd__law_next, F__law_next⟩ := c.def_ 9 (d := D__law_next) rfl
  obtain ⟨fd__law_folded, F__law_folded⟩ := c.def_ 10 (d := D__law_folded) rfl
  obtain ⟨fd__law_number, F__law_number⟩ := c.def_ 11 (d := D__law_number) rfl
  obtain ⟨fd__law_shaped, F__law_shaped⟩ := c.def_ 12 (d := D__law_shaped) rfl
  obtain ⟨fd__law_points, F__law_points⟩ := c.def_ 13 (d := D__law_points) rfl
  obtain ⟨fd__law_over, F__law_over⟩ := c.def_ 14 (d := D__law_over) rfl
  obtain ⟨fd__law_column, F__law_column⟩ := c.def_ 15 (d := D__law_column) rfl
  obtain ⟨fd__law_columns, F__law_columns⟩ := c.def_ 16 (d := D__law_columns) rfl
  obtain ⟨fd__law_made, F__law_made⟩ := c.def_ 17 (d := D__law_made) rfl
  obtain ⟨fd__law_odd, F__law_odd⟩ := c.def_ 18 (d := D__law_odd) rfl
  obtain ⟨fd__law_bent, F__law_bent⟩ := c.def_ 19 (d := D__law_bent) rfl
  obtain ⟨fd__law_rows_bent, F__law_rows_bent⟩ := c.def_ 20 (d := D__law_rows_bent) rfl
  obtain ⟨fd__law_mids, F__law_mids⟩ := c.def_ 21 (d := D__law_mids) rfl
  obtain ⟨fd__law_doubled, F__law_doubled⟩ := c.def_ 22 (d := D__law_doubled) rfl
  obtain ⟨fd__law_in_place, F__law_in_place⟩ := c.def_ 23 (d := D__law_in_place) rfl
  obtain ⟨fd__law_beside, F__law_beside⟩ := c.def_ 24 (d := D__law_beside) rfl
  obtain ⟨fd__law_crossed, F__law_crossed⟩ := c.def_ 25 (d := D__law_crossed) rfl
  obtain ⟨fd__law_twice, F__law_twice⟩ := c.def_ 26 (d := D__law_twice) rfl
  obtain ⟨fd__law_falls, F__law_falls⟩ := c.def_ 27 (d := D__law_falls) rfl
  obtain ⟨fd__law_clash, F__law_clash⟩ := c.def_ 28 (d := D__law_clash) rfl
  obtain ⟨fd__law_is_spread, F__law_is_spread⟩ := c.def_ 29 (d := D__law_is_spread) rfl
  obtain ⟨fd__law_right, F__law_right⟩ := c.def_ 30 (d := D__law_right) rfl
  obtain ⟨fd__law_otherwise, F__law_otherwise⟩ := c.def_ 31 (d := D__law_otherwise) rfl
  obtain ⟨fd_law, F_law⟩ := c.def_ 32 (d := D_law) rfl
  have m_isinstance := He.free_ok X G (c.fact 33 (f := .free "isinstance") rfl)
  have m_int := He.free_ok X G (c.fact 34 (f := .free "int") rfl)
  have m_bool := He.free_ok X G (c.fact 35 (f := .free "bool") rfl)
  have m_all := He.free_ok X G (c.fact 36 (f := .free "all") rfl)
  have m_zip := He.free_ok X G (c.fact 37 (f := .free "zip") rfl)
  have m_len := He.free_ok X G (c.fact 38 (f := .free "len") rfl)
  have m_any := He.free_ok X G (c.fact 39 (f := .free "any") rfl)
  have m_sorted := He.free_ok X G (c.fact 40 (f := .free "sorted") rfl)
  have m_list := He.free_ok X G (c.fact 41 (f := .free "list") rfl)
  have m_range := He.free_ok X G (c.fact 42 (f := .free "range") rfl)
  have m_max := He.free_ok X G (c.fact 43 (f := .free "max") rfl)
  have m_min := He.free_ok X G (c.fact 44 (f := .free "min") rfl)
  have m_tuple := He.free_ok X G (c.fact 45 (f := .free "tuple") rfl)
  have m_enumerate := He.free_ok X G (c.fact 46 (f := .free "enumerate") rfl)
  have m_set := He.free_ok X G (c.fact 47 (f := .free "set") rfl)
  have e := hfa.symm.trans (He.glo_ok X G (c.fact 32 (f := .glo "law") rfl))
  cases e
  refine ⟨fd_law, fun s v => FunD.bindsA (ps := ["script"]) F_law (fun _ _ _ _ _ _ us hl => match us, hl with | [_], _ => rfl) s [v] rfl, fun base _ _ => ?_⟩
  have d_is_whole := ok_is_whole (P := P) (w := w) (mg := mg) (base := base) F_is_whole (He.glo_ok X G (c.fact 0 (f := .glo "is_whole") rfl)) m_isinstance m_int m_bool
  have d_is_within := ok_is_within (P := P) (w := w) (mg := mg) (base := base) F_is_within (He.glo_ok X G (c.fact 1 (f := .glo "is_within") rfl)) d_is_whole
  have d_is_over := ok_is_over (P := P) (w := w) (mg := mg) (base := base) F_is_over (He.glo_ok X G (c.fact 2 (f := .glo "is_over") rfl)) m_all m_zip
  have d_does_beat := ok_does_beat (P := P) (w := w) (mg := mg) (base := base) F_does_beat (He.glo_ok X G (c.fact 3 (f := .glo "does_beat") rfl)) d_is_over
  have d_is_rising := ok_is_rising (P := P) (w := w) (mg := mg) (base := base) F_is_rising (He.glo_ok X G (c.fact 4 (f := .glo "is_rising") rfl)) m_all d_is_within m_zip
  have d_is_row := ok_is_row (P := P) (w := w) (mg := mg) (base := base) F_is_row (He.glo_ok X G (c.fact 5 (f := .glo "is_row") rfl)) m_all d_is_within m_len m_zip d_does_beat
  have d_are_apart := ok_are_apart (P := P) (w := w) (mg := mg) (base := base) F_are_apart (He.glo_ok X G (c.fact 6 (f := .glo "are_apart") rfl)) m_any d_does_beat
  have d_spread_right := ok_spread_right (P := P) (w := w) (mg := mg) (base := base) F_spread_right (He.glo_ok X G (c.fact 7 (f := .glo "spread_right") rfl)) d_is_rising m_len d_are_apart m_all d_is_row m_sorted m_list m_range
  have d__law_pool := ok__law_pool (P := P) (w := w) (mg := mg) (base := base) F__law_pool (He.glo_ok X G (c.fact 8 (f := .glo "_law_pool") rfl)) m_max
  have d__law_next := ok__law_next (P := P) (w := w) (mg := mg) (base := base) F__law_next (He.glo_ok X G (c.fact 9 (f := .glo "_law_next") rfl)) 
  have d__law_folded := ok__law_folded (P := P) (w := w) (mg := mg) (base := base) F__law_folded (He.glo_ok X G (c.fact 10 (f := .glo "_law_folded") rfl)) m_range m_len m_min
  have d__law_number := ok__law_number (P := P) (w := w) (mg := mg) (base := base) F__law_number (He.glo_ok X G (c.fact 11 (f := .glo "_law_number") rfl)) d__law_next m_min
  have d__law_shaped := ok__law_shaped (P := P) (w := w) (mg := mg) (base := base) F__law_shaped (He.glo_ok X G (c.fact 12 (f := .glo "_law_shaped") rfl)) m_tuple d__law_number d__law_next m_max m_len
  have d__law_points := ok__law_points (P := P) (w := w) (mg := mg) (base := base) F__law_points (He.glo_ok X G (c.fact 13 (f := .glo "_law_points") rfl)) d__law_next m_range d__law_shaped m_len m_tuple
  have d__law_over := ok__law_over (P := P) (w := w) (mg := mg) (base := base) F__law_over (He.glo_ok X G (c.fact 14 (f := .glo "_law_over") rfl)) m_zip
  have d__law_column := ok__law_column (P := P) (w := w) (mg := mg) (base := base) F__law_column (He.glo_ok X G (c.fact 15 (f := .glo "_law_column") rfl)) m_range m_tuple d__law_next m_len m_max m_int m_zip
  have d__law_columns := ok__law_columns (P := P) (w := w) (mg := mg) (base := base) F__law_columns (He.glo_ok X G (c.fact 16 (f := .glo "_law_columns") rfl)) m_range d__law_next m_tuple m_min d__law_column
  have d__law_made := ok__law_made (P := P) (w := w) (mg := mg) (base := base) F__law_made (He.glo_ok X G (c.fact 17 (f := .glo "_law_made") rfl)) d__law_columns m_enumerate m_range m_len d__law_next m_tuple m_zip m_sorted
  have d__law_odd := ok__law_odd (P := P) (w := w) (mg := mg) (base := base) F__law_odd (He.glo_ok X G (c.fact 18 (f := .glo "_law_odd") rfl)) d__law_next
  have d__law_bent := ok__law_bent (P := P) (w := w) (mg := mg) (base := base) F__law_bent (He.glo_ok X G (c.fact 19 (f := .glo "_law_bent") rfl)) d__law_next m_len d__law_odd
  have d__law_rows_bent := ok__law_rows_bent (P := P) (w := w) (mg := mg) (base := base) F__law_rows_bent (He.glo_ok X G (c.fact 20 (f := .glo "_law_rows_bent") rfl)) d__law_next m_len d__law_bent m_tuple m_list m_range
  have d__law_mids := ok__law_mids (P := P) (w := w) (mg := mg) (base := base) F__law_mids (He.glo_ok X G (c.fact 21 (f := .glo "_law_mids") rfl)) 
  have d__law_doubled := ok__law_doubled (P := P) (w := w) (mg := mg) (base := base) F__law_doubled (He.glo_ok X G (c.fact 22 (f := .glo "_law_doubled") rfl)) m_enumerate m_range m_len d__law_over d__law_next
  have d__law_in_place := ok__law_in_place (P := P) (w := w) (mg := mg) (base := base) F__law_in_place (He.glo_ok X G (c.fact 23 (f := .glo "_law_in_place") rfl)) m_enumerate m_range m_len d__law_over d__law_next
  have d__law_beside := ok__law_beside (P := P) (w := w) (mg := mg) (base := base) F__law_beside (He.glo_ok X G (c.fact 24 (f := .glo "_law_beside") rfl)) d__law_mids m_enumerate m_max m_len d__law_next m_tuple m_sorted
  have d__law_crossed := ok__law_crossed (P := P) (w := w) (mg := mg) (base := base) F__law_crossed (He.glo_ok X G (c.fact 25 (f := .glo "_law_crossed") rfl)) d__law_mids m_range m_len d__law_next m_tuple
  have d__law_twice := ok__law_twice (P := P) (w := w) (mg := mg) (base := base) F__law_twice (He.glo_ok X G (c.fact 26 (f := .glo "_law_twice") rfl)) m_range m_len d__law_next
  have d__law_falls := ok__law_falls (P := P) (w := w) (mg := mg) (base := base) F__law_falls (He.glo_ok X G (c.fact 27 (f := .glo "_law_falls") rfl)) m_range m_len d__law_over
  have d__law_clash := ok__law_clash (P := P) (w := w) (mg := mg) (base := base) F__law_clash (He.glo_ok X G (c.fact 28 (f := .glo "_law_clash") rfl)) d__law_over
  have d__law_is_spread := ok__law_is_spread (P := P) (w := w) (mg := mg) (base := base) F__law_is_spread (He.glo_ok X G (c.fact 29 (f := .glo "_law_is_spread") rfl)) m_list m_len m_sorted m_set d__law_clash d__law_falls m_range
  have d__law_right := ok__law_right (P := P) (w := w) (mg := mg) (base := base) F__law_right (He.glo_ok X G (c.fact 30 (f := .glo "_law_right") rfl)) d__law_is_spread m_range d_spread_right m_isinstance m_bool
  have d__law_otherwise := ok__law_otherwise (P := P) (w := w) (mg := mg) (base := base) F__law_otherwise (He.glo_ok X G (c.fact 31 (f := .glo "_law_otherwise") rfl)) d__law_crossed d__law_twice d__law_doubled d__law_in_place d__law_beside m_tuple m_len
  exact ok_law F_law d__law_folded d__law_pool m_range d__law_next d__law_made m_len d__law_is_spread d__law_right d__law_otherwise d__law_bent d__law_rows_bent
end U
open PySem PySem.W PySem.Calls PyProof.Rows
theorem PySem.Challenge.cw_unbeaten_k57_spreads_judged_holds : PySem.Challenge.rw_unbeaten_k57_spreads_judged.Holds := by
  w_on; o_law
  refine HandSHeadRun.head_any (r := OpenLaw.row PySem.Challenge.rw_unbeaten_k57_spreads_judged) (q := view (OpenLaw.row PySem.Challenge.rw_unbeaten_k57_spreads_judged).prog [36]) (H := U.hkL) (ob := U.obL) (M := 4000) (loose := U.looseL) (d := HandSHeadRun.topDef (OpenLaw.row PySem.Challenge.rw_unbeaten_k57_spreads_judged).prog 36) (kwd := []) U.obL_eq
    (by kernel_rfl) (fun s => by kernel_rfl) U.runL (by kernel_rfl) (by kernel_rfl) (by kernel_rfl) (by rfl) (by first | assumption | decide +kernel) (by decide +kernel) ⟨rfl, rfl, rfl, rfl, rfl, by decide +kernel⟩ ?hw ?hc
  case hw => w_witness2
  case hc =>
    refine DL.walk_ofG (l := PySem.Challenge.rw_unbeaten_k57_spreads_judged) (n := 63) (k := 6) (x := "script") (lk := []) (CX := L2.CX0) rfl (by decide) (by kernel_rfl) ⟨rfl, by decide, by decide⟩ ?F (fun _ _ _ _ z => z)
    intro w mg fa h Y G hmg0
    obtain ⟨K, KX, c⟩ := Y
    have hmg : mg ("law" : PySem.Str) = some (.ref fa) := by
      have e : (HandSHeadRun.topDef (OpenLaw.row PySem.Challenge.rw_unbeaten_k57_spreads_judged).prog 36).name = ("law" : PySem.Str) := by kernel_rfl
      rw [← e]
      exact hmg0
    obtain ⟨fd, hb, hF⟩ := U.factsL (P := (PySem.Challenge.rw_unbeaten_k57_spreads_judged).prog) (w := w) KX G hmg c
    exact ⟨K, fd, KX, hb, hF⟩
