import PyProof.Rows.All
import Wide.All
import OpenK.AllK
import Wide.FinOn
import HandS.ForMost
import HandS.ForExc
import HandS.HeadHook1
import HandS.Lambda
import HandS.TupAny
import HandS.Deep
import HandS.Style
import HandS.Wide
import KE.DataEq
import KE.DataAny
import KE.DataMinMax
import KE.DataFind
import KE.DataIsa
import KE.Datum
import KE.DatumOrd
import HandS.Defaults
import KE.GoesEnum
import KE.GoesNew
import KE.GoesMore
import KE.GoesRev
import HandS.More
import HandS.Conv
import HandS.Text
import KE.SortData
import PyProof.ReprRoads
import HandS.HeadEnd
import HandS.HeadHook2
import HandS.FStrTup
import HandS.IsInst
import PyProof.IsiBase
import PyProof.IsInstanceH
import PyProof.IsiNone
import KE.KTupSum
import HandS.TupMul
import HandS.SortKw
import HandS.ExcOwn
import HandS.TryOnly
import HandS.ExcIs
import HandS.ExcValue
import KE.KSlice
import HandS.HotCalls
import HandS.TupLe
import KE.SortCalls
import HandS.Dict
import HandS.Rev
import KE.SortKeyHeap
import HandS.Nested
import HandS.EndTab
import HandS.HeadHook4
import HandS.HeadWalk
import HandS.SetFor
import HandS.Strs
import HandS.Head2
import HandS.Head3
import PySem.Challenge.RW_unbeaten_k68_least_lots_with_witnesses
set_option Elab.async false
set_option linter.all false
set_option maxRecDepth 100000
set_option maxHeartbeats 0
/-! The data layer, part 1: frozen data, owned lists and dicts, the relation of a data state to slots and heap. -/
namespace DL
open PySem PySem.Spec PyProof.Rows L2

/-- the def of the name x -/
def FnK (K : PySem.W.Frag) (x : Str) : Prop := ∃ o, K.lookup (He.ga K x) = some o ∧ o.cls = .type "function"
/-! what a value reads as, an empty dict, too; a def stands as a dict of its name -/
mutual
inductive Dq (K : PySem.W.Frag) (H : Hp) : V → PyData → Prop
  | non : Dq K H .non .none
  | bl (b : Bool) : Dq K H (.bl b) (.bool b)
  | int (i : Int) : Dq K H (.int i) (.int i)
  | str (x : Str) : Dq K H (.str x) (.str x)
  | lst {a : Addr} {xs : List V} {ds : List PyData} : SqL K H a xs → DqAll K H xs ds → Dq K H (.ref a) (.list ds)
  | tup {a : Addr} {xs : List V} {ds : List PyData} : SqT K H a xs → DqAll K H xs ds → Dq K H (.ref a) (.tuple ds)
  | dct {a : Addr} : H a = some (.dK []) → Dq K H (.ref a) (.dict [])
  | fnv {x : Str} : FnK K x → Dq K H (.ref (He.ga K x)) (.dict [(.str x, .none)])
  | xtp {a : Addr} {o : Obj} {xs : List V} {ds : List PyData} : H a = some (.frz o (.tup xs)) → o.dict = none → DqAll K H xs ds → Dq K H (.ref a) (.dict [(.none, .tuple ds)])
inductive DqAll (K : PySem.W.Frag) (H : Hp) : List V → List PyData → Prop
  | nil : DqAll K H [] []
  | cons {v : V} {vs : List V} {d : PyData} {ds : List PyData} : Dq K H v d → DqAll K H vs ds → DqAll K H (v :: vs) (d :: ds)
end
/-! no def within -/
mutual
def nd : PyData → Bool
  | .dict kvs => kvs.isEmpty
  | .list ds => ndA ds
  | .tuple ds => ndA ds
  | _ => true
def ndA : List PyData → Bool
  | [] => true
  | d :: ds => nd d && ndA ds
end
theorem ndA_of : ∀ {ds : List PyData}, (∀ d ∈ ds, nd d = true) → ndA ds = true
  | [], _ => rfl
  | d :: ds, h => by rw [ndA, h d List.mem_cons_self, ndA_of fun x hx => h x (List.mem_cons_of_mem _ hx)]; rfl
section
variable {X : Cx} {pins : List (Addr × Obj)} {σ : L2.St} {H : Hp} {s : Shared}
theorem dct_ob (I : Inv X pins σ H s) {a : Addr} (h : H a = some (.dK [])) : Reads s.heap (.ref a) (.dict []) [a] ∧ a ≠ sysModules := by
  obtain ⟨_, hs, vs, kv, o, es, ep, ho, hx, hd, _, pr, _⟩ := I.hok a _ h
  have hv : vs = [] := by cases kv; rfl
  subst hv
  have he : es.toList = [] := by
    cases e : es.toList with
    | nil => rfl
    | cons x l => rw [e] at pr; cases pr
  exact ⟨Reads.dict (as := []) (bs := []) ho hx.1 hd (by rw [he]; exact .nil) (by rw [he]; exact .nil), fun z => by rw [z] at hs; simp at hs⟩
mutual
theorem Dq.reads (I : Inv X pins σ H s) : ∀ (d : PyData) (v : V) (u : Value), nd d = true → Dq X.K H v d → RelV v u → ∃ as, Reads s.heap u d as
  | .none, _, _, _, .non, r => by cases r; exact ⟨_, .none⟩
  | .bool b, _, _, _, .bl _, r => by cases r; exact ⟨_, .bool b⟩
  | .int i, _, _, _, .int _, r => by obtain ⟨t, rfl⟩ := r; exact ⟨_, .int i t⟩
  | .str x, _, _, _, .str _, r => by obtain ⟨t, rfl⟩ := r; exact ⟨_, .str x t⟩
  | .list ds, _, _, n, .lst hs ha, r => by
    cases r
    rw [nd] at n
    obtain ⟨its, rv, ⟨o, _, ho, hc, _, hd⟩, _⟩ := I.list hs
    obtain ⟨as, hr⟩ := Dq.readsAll I ds _ its n ha rv
    exact ⟨_, .list ho hc hd hr⟩
  | .tuple ds, _, _, n, .tup hs ha, r => by
    cases r
    rw [nd] at n
    obtain ⟨its, rv, ⟨o, ho, hc, _, hd⟩, _⟩ := I.tuple hs
    obtain ⟨as, hr⟩ := Dq.readsAll I ds _ its n ha rv
    exact ⟨_, .tuple ho hc hd hr⟩
  | .dict _, _, _, _, .dct h, r => by cases r; exact ⟨_, (dct_ob I h).1⟩
  | .dict _, _, _, n, .fnv h, r => by simp [nd] at n
  | .dict _, _, _, n, .xtp _ _ _, r => by simp [nd] at n
theorem Dq.readsAll (I : Inv X pins σ H s) : ∀ (ds : List PyData) (vs : List V) (us : List Value), ndA ds = true → DqAll X.K H vs ds → Vals vs us → ∃ as, ReadsAll s.heap us ds as
  | [], _, _, _, .nil, r => by cases r; exact ⟨_, .nil⟩
  | d :: ds, _, _, n, .cons h1 h2, r => by
    rw [ndA, Bool.and_eq_true] at n
    cases r with
    | cons r1 r2 =>
      obtain ⟨as, q1⟩ := Dq.reads I d _ _ n.1 h1 r1
      obtain ⟨bs, q2⟩ := Dq.readsAll I ds _ _ n.2 h2 r2
      exact ⟨_, .cons q1 q2⟩
end
end
mutual
inductive Rp (K : PySem.W.Frag) (F : Addr → Prop) (H : Hp) : V → PyData → Prop
  | non : Rp K F H .non .none
  | bl (b : Bool) : Rp K F H (.bl b) (.bool b)
  | int (i : Int) : Rp K F H (.int i) (.int i)
  | str (x : Str) : Rp K F H (.str x) (.str x)
  | lst {a : Addr} {xs : List V} {ds : List PyData} : F a → H a = some (.lst xs) → RpA K F H xs ds → Rp K F H (.ref a) (.list ds)
  | tup {a : Addr} {xs : List V} {ds : List PyData} : SqT K H a xs → RpA K F H xs ds → Rp K F H (.ref a) (.tuple ds)
  | dct {a : Addr} : F a → H a = some (.dK []) → Rp K F H (.ref a) (.dict [])
  | fnv {x : Str} : FnK K x → Rp K F H (.ref (He.ga K x)) (.dict [(.str x, .none)])
  | xtp {a : Addr} {o : Obj} {xs : List V} {ds : List PyData} : H a = some (.frz o (.tup xs)) → o.dict = none → RpA K F H xs ds → Rp K F H (.ref a) (.dict [(.none, .tuple ds)])
inductive RpA (K : PySem.W.Frag) (F : Addr → Prop) (H : Hp) : List V → List PyData → Prop
  | nil : RpA K F H [] []
  | cons {v : V} {vs : List V} {d : PyData} {ds : List PyData} : Rp K F H v d → RpA K F H vs ds → RpA K F H (v :: vs) (d :: ds)
end

def Stl : HO → Prop
  | .tup _ => True
  | .frz _ _ => True
  | .ext _ => True
  | _ => False
/-- no table of code objects -/
def NT (o : HO) : Prop := ∀ ps, o ≠ .tbl ps
theorem NT.lst (xs : List V) : NT (.lst xs) := fun _ z => nomatch z
theorem NT.tup (xs : List V) : NT (.tup xs) := fun _ z => nomatch z
theorem NT.frz (o : Obj) (u : HO) : NT (.frz o u) := fun _ z => nomatch z
theorem NT.dK (xs : List (Key × V)) : NT (.dK xs) := fun _ z => nomatch z
theorem NT.dT (xs : List (List Key × V)) : NT (.dT xs) := fun _ z => nomatch z
theorem NT.ext (p : Heap → Prop) : NT (.ext p) := fun _ z => nomatch z
abbrev Kp (F : Addr → Prop) (H H' : Hp) : Prop := ∀ a o, H a = some o → NT o → F a ∨ Stl o → H' a = some o

section
variable {K : PySem.W.Frag} {F F' : Addr → Prop} {H H' : Hp}
theorem sqT_keep {a : Addr} {xs : List V} (hH : Kp F H H') (h : SqT K H a xs) : SqT K H' a xs := by
  rcases h with (h | ⟨o, h⟩) | h
  · exact .inl (.inl (hH _ _ h (.tup _) (.inr trivial)))
  · exact .inl (.inr ⟨o, hH _ _ h (.frz _ _) (.inr trivial)⟩)
  · exact .inr h
mutual
theorem Rp.keep (hF : ∀ a, F a → F' a) (hH : Kp F H H') : ∀ (d : PyData) (v : V), Rp K F H v d → Rp K F' H' v d
  | .none, _, .non => .non
  | .bool _, _, .bl b => .bl b
  | .int _, _, .int i => .int i
  | .str _, _, .str x => .str x
  | .list ds, _, .lst f h r => .lst (hF _ f) (hH _ _ h (.lst _) (.inl f)) (RpA.keep hF hH ds _ r)
  | .tuple ds, _, .tup h r => .tup (sqT_keep hH h) (RpA.keep hF hH ds _ r)
  | .dict _, _, .dct f h => .dct (hF _ f) (hH _ _ h (.dK _) (.inl f))
  | .dict _, _, .fnv h => .fnv h
  | .dict _, _, .xtp h e r => .xtp (hH _ _ h (.frz _ _) (.inr trivial)) e (RpA.keep hF hH _ _ r)
theorem RpA.keep (hF : ∀ a, F a → F' a) (hH : Kp F H H') : ∀ (ds : List PyData) (vs : List V), RpA K F H vs ds → RpA K F' H' vs ds
  | [], _, .nil => .nil
  | d :: ds, _, .cons r q => .cons (Rp.keep hF hH d _ r) (RpA.keep hF hH ds _ q)
end
mutual
theorem Rp.dp : ∀ (d : PyData) (v : V), Rp K F H v d → Dq K H v d
  | .none, _, .non => .non
  | .bool _, _, .bl b => .bl b
  | .int _, _, .int i => .int i
  | .str _, _, .str x => .str x
  | .list ds, _, .lst f h r => .lst (SqL.of h) (RpA.dp ds _ r)
  | .tuple ds, _, .tup h r => .tup h (RpA.dp ds _ r)
  | .dict _, _, .dct _ h => .dct h
  | .dict _, _, .fnv h => .fnv h
  | .dict _, _, .xtp h e r => .xtp h e (RpA.dp _ _ r)
theorem RpA.dp : ∀ (ds : List PyData) (vs : List V), RpA K F H vs ds → DqAll K H vs ds
  | [], _, .nil => .nil
  | d :: ds, _, .cons r q => .cons (Rp.dp d _ r) (RpA.dp ds _ q)
end
/-! an exact tuple told as a plain one -/
mutual
def strip : PyData → PyData
  | .dict [(.none, .tuple ds)] => .tuple (stripA ds)
  | .tuple ds => .tuple (stripA ds)
  | .list ds => .list (stripA ds)
  | d => d
def stripA : List PyData → List PyData
  | [] => []
  | d :: ds => strip d :: stripA ds
end
mutual
theorem Rp.strip : ∀ (d : PyData) (v : V), Rp K F H v d → Rp K F H v (DL.strip d)
  | .none, _, .non => .non
  | .bool _, _, .bl b => .bl b
  | .int _, _, .int i => .int i
  | .str _, _, .str x => .str x
  | .list ds, _, .lst f h r => .lst f h (RpA.strip ds _ r)
  | .tuple ds, _, .tup h r => .tup h (RpA.strip ds _ r)
  | .dict _, _, .dct f h => .dct f h
  | .dict _, _, .fnv h => .fnv h
  | .dict _, _, .xtp h e r => .tup (.inl (.inr ⟨_, h⟩)) (RpA.strip _ _ r)
theorem RpA.strip : ∀ (ds : List PyData) (vs : List V), RpA K F H vs ds → RpA K F H vs (stripA ds)
  | [], _, .nil => .nil
  | d :: ds, _, .cons r q => .cons (Rp.strip d _ r) (RpA.strip ds _ q)
end
theorem RpA.length : ∀ {vs : List V} {ds : List PyData}, RpA K F H vs ds → vs.length = ds.length
  | _, _, .nil => rfl
  | _, _, .cons _ q => congrArg (· + 1) (RpA.length q)
theorem RpA.get : ∀ {vs : List V} {ds : List PyData} {i : Nat} {d : PyData}, RpA K F H vs ds → ds[i]? = some d → ∃ v, vs[i]? = some v ∧ Rp K F H v d
  | _, _, _, _, .nil, e => by simp at e
  | _, _, 0, _, .cons r _, e => by simp at e; subst e; exact ⟨_, rfl, r⟩
  | _, _, i + 1, x, .cons _ t, e => by
    obtain ⟨u, h1, h2⟩ := RpA.get (i := i) (d := x) t (by simpa using e)
    exact ⟨u, by simpa using h1, h2⟩
theorem RpA.get' : ∀ {vs : List V} {ds : List PyData} {i : Nat} {v : V}, RpA K F H vs ds → vs[i]? = some v → ∃ d, ds[i]? = some d ∧ Rp K F H v d
  | _, _, _, _, .nil, e => by simp at e
  | _, _, 0, _, .cons r _, e => by simp at e; subst e; exact ⟨_, rfl, r⟩
  | _, _, i + 1, x, .cons _ t, e => by
    obtain ⟨u, h1, h2⟩ := RpA.get' (i := i) (v := x) t (by simpa using e)
    exact ⟨u, by simpa using h1, h2⟩
theorem RpA.append : ∀ {vs ws : List V} {ds es : List PyData}, RpA K F H vs ds → RpA K F H ws es → RpA K F H (vs ++ ws) (ds ++ es)
  | _, _, _, _, .nil, s => s
  | _, _, _, _, .cons r t, s => .cons r (RpA.append t s)
theorem RpA.one {v : V} {d : PyData} (r : Rp K F H v d) : RpA K F H [v] [d] := .cons r .nil
theorem RpA.set {v : V} {d : PyData} (r : Rp K F H v d) : ∀ {vs : List V} {ds : List PyData} (i : Nat), RpA K F H vs ds → RpA K F H (vs.set i v) (ds.set i d)
  | _, _, _, .nil => .nil
  | _, _, 0, .cons _ t => .cons r t
  | _, _, i + 1, .cons q t => .cons q (RpA.set r i t)
theorem RpA.take : ∀ {vs : List V} {ds : List PyData} (n : Nat), RpA K F H vs ds → RpA K F H (vs.take n) (ds.take n)
  | _, _, 0, _ => .nil
  | _, _, _ + 1, .nil => .nil
  | _, _, n + 1, .cons r t => .cons r (RpA.take n t)
theorem RpA.drop : ∀ {vs : List V} {ds : List PyData} (n : Nat), RpA K F H vs ds → RpA K F H (vs.drop n) (ds.drop n)
  | _, _, 0, r => r
  | _, _, _ + 1, .nil => .nil
  | _, _, n + 1, .cons r t => RpA.drop n t
theorem RpA.ints : ∀ {ns : List Int} {vs : List V}, RpA K F H vs (ns.map PyData.int) → vs = ns.map V.int
  | [], _, .nil => rfl
  | n :: ns, _, .cons r t => by
    cases r
    rw [List.map_cons, RpA.ints t]
theorem RpA.ofInts : ∀ (ns : List Int), RpA K F H (ns.map V.int) (ns.map PyData.int)
  | [] => .nil
  | n :: ns => .cons (.int n) (RpA.ofInts ns)
theorem RpA.bools : ∀ {ns : List Bool} {vs : List V}, RpA K F H vs (ns.map PyData.bool) → vs = ns.map V.bl
  | [], _, .nil => rfl
  | n :: ns, _, .cons r t => by
    cases r
    rw [List.map_cons, RpA.bools t]
end

/-- an exception object, told by its class and its fields' dict -/
def ExT (cls : Value) (d : Option Addr) (a : Addr) : HO := .ext fun h => ∃ (oe : Obj) (vs : Array Value), h.get? a = some oe ∧ Zc cls d oe ∧ oe.data = .fields vs
/-! ### values and their owners -/
/-- further owned things: a list whose first thing is an owned list; a dict by tuples of keys -/
inductive Un where
  | nst (xs ds : List PyData)
  | dt (kvs : List (List Key × PyData))
inductive Vl where
  | fr (d : PyData)
  | ow (ds : List PyData)
  | dk (kvs : List (Key × PyData))
  | cst (v : V)
  | scr (ns : List Int)
  | exn (x : Str)
  | un (u : Un)
  | bor (i : Nat)
  | gone
/-- a slot's number, or a temp's -/
abbrev Ow := Sum Nat Nat
/-- the script: a frozen object, or one of the module's own -/
def ScrAt (K : PySem.W.Frag) (H : Hp) (a : Addr) (ns : List Int) : Prop := (∃ o, H a = some (.frz o (.lst (ns.map V.int)))) ∨
  ∃ (o : Obj) (its : Array Value) (n : Nat), K.lookup a = some o ∧ o.cls = .type "list" ∧ o.dict = none ∧ o.data = .seq its n ∧ its.size ≤ sizeLine ∧ Vals (ns.map V.int) its.toList
theorem ScrAt.sq {K : PySem.W.Frag} {H : Hp} {a : Addr} {ns : List Int} (h : ScrAt K H a ns) : SqL K H a (ns.map V.int) := h.elim (fun z => .inl (.inr z)) .inr
theorem ScrAt.keep {K : PySem.W.Frag} {F : Addr → Prop} {H H' : Hp} {a : Addr} {ns : List Int} (hH : Kp F H H') (h : ScrAt K H a ns) : ScrAt K H' a ns := h.elim (fun ⟨o, z⟩ => .inl ⟨o, hH _ _ z (.frz _ _) (.inr trivial)⟩) .inr
def RpK (K : PySem.W.Frag) (F : Addr → Prop) (H : Hp) : List (Key × V) → List (Key × PyData) → Prop := Paired fun p q => p.1 = q.1 ∧ Rp K F H p.2 q.2
def RpT (K : PySem.W.Frag) (F : Addr → Prop) (H : Hp) : List (List Key × V) → List (List Key × PyData) → Prop := Paired fun p q => p.1 = q.1 ∧ Rp K F H p.2 q.2
def UR (K : PySem.W.Frag) (F : Addr → Prop) (O : Addr → Option Ow) (H : Hp) (w : Ow) (v : V) : Un → Prop
  | .nst xs ds => ∃ a b vs ws, v = .ref a ∧ a ≠ b ∧ O a = some w ∧ H a = some (.lst (.ref b :: vs)) ∧ O b = some w ∧ H b = some (.lst ws) ∧ RpA K F H ws xs ∧ RpA K F H vs ds
  | .dt kvs => ∃ a vs, v = .ref a ∧ O a = some w ∧ H a = some (.dT vs) ∧ RpT K F H vs kvs
def VR (K : PySem.W.Frag) (F : Addr → Prop) (O : Addr → Option Ow) (H : Hp) (w : Ow) (v : V) : Vl → Prop
  | .fr d => Rp K F H v d
  | .ow ds => ∃ a vs, v = .ref a ∧ O a = some w ∧ H a = some (.lst vs) ∧ RpA K F H vs ds
  | .dk kvs => ∃ a vs, v = .ref a ∧ O a = some w ∧ H a = some (.dK vs) ∧ RpK K F H vs kvs
  | .cst c => v = c
  | .scr ns => ∃ a, v = .ref a ∧ ScrAt K H a ns
  | .exn x => ∃ a, v = .ref a ∧ H a = some (ExT (.ref (He.ga K x)) none a)
  | .un u => UR K F O H w v u
  | .bor _ => False
  | .gone => True
section
variable {K : PySem.W.Frag} {F F' : Addr → Prop} {O O' : Addr → Option Ow} {H H' : Hp} {w w' : Ow} {v : V}
theorem VR.keep (hF : ∀ a, F a → F' a) (hH : Kp F H H') (hO : ∀ a, O a = some w → O' a = some w') (hW : ∀ a o, O a = some w → NT o → H a = some o → H' a = some o) : ∀ {d : Vl}, VR K F O H w v d → VR K F' O' H' w' v d
  | .fr d, h => Rp.keep hF hH d v h
  | .ow ds, ⟨a, vs, e, o, h, r⟩ => ⟨a, vs, e, hO a o, hW a _ o (.lst _) h, r.keep hF hH⟩
  | .dk kvs, ⟨a, vs, e, o, h, r⟩ => ⟨a, vs, e, hO a o, hW a _ o (.dK _) h, Paired.mapP r fun p q z => ⟨z.1, Rp.keep hF hH _ _ z.2⟩⟩
  | .cst c, h => h
  | .scr ns, ⟨a, e, h⟩ => ⟨a, e, h.keep hH⟩
  | .exn x, ⟨a, e, h⟩ => ⟨a, e, hH _ _ h (.ext _) (.inr trivial)⟩
  | .un (.nst xs ds), ⟨a, b, vs, ws, e, n, o1, h1, o2, h2, r1, r2⟩ => ⟨a, b, vs, ws, e, n, hO a o1, hW a _ o1 (.lst _) h1, hO b o2, hW b _ o2 (.lst _) h2, r1.keep hF hH, r2.keep hF hH⟩
  | .un (.dt kvs), ⟨a, vs, e, o, h, r⟩ => ⟨a, vs, e, hO a o, hW a _ o (.dT _) h, Paired.mapP r fun p q z => ⟨z.1, Rp.keep hF hH _ _ z.2⟩⟩
  | .bor _, h => h
  | .gone, h => h
end

def TmR (K : PySem.W.Frag) (F : Addr → Prop) (O : Addr → Option Ow) (H : Hp) (σ : L2.St) : List Vl → List V → Prop
  | [], [] => True
  | d :: tm, v :: tv => ((∃ i, d = .bor i ∧ σ[i]? = some (some v)) ∨ VR K F O H (.inr tm.length) v d) ∧ TmR K F O H σ tm tv
  | _, _ => False
/-- what stood at the entry; the addresses that the def may change; those that are frozen -/
structure Ba where
  H0 : Hp
  A0 : Addr → Prop
  F0 : Addr → Prop
  L0 : List (Nat × V)
  T : List (Addr × Str)
/-- an object that is neither a table nor stable is changed -/
theorem tabs_upd {T : List (Addr × Str)} {H : Hp} (t : LamX.Tabs T H) {a : Addr} {o o' : HO} (e : H a = some o) (n : NT o) (st : ¬ Stl o) : LamX.Tabs T (upd H a o') := fun p hp => by
  obtain ⟨ps, h1, h2, h3⟩ := t p hp
  have np : p.1 ≠ a := fun z => by rw [z, e] at h1; exact n ps (Option.some.inj h1)
  refine ⟨ps, by rw [upd_ne np]; exact h1, h2, fun pos cv hc => ?_⟩
  obtain ⟨c, e1, e2⟩ := h3 pos cv hc
  have nc : c ≠ a := fun z => by
    rw [z, e] at e2
    refine st ?_
    rw [Option.some.inj e2]
    exact trivial
  exact ⟨c, e1, by rw [upd_ne nc]; exact e2⟩
/-- what stood at the entry stays, but for what may change and the tables; these are good -/
structure Fr (T : List (Addr × Str)) (H0 : Hp) (A0 : Addr → Prop) (H : Hp) : Prop where
  ke : ∀ a o, H0 a = some o → ¬ A0 a → NT o ∨ T = [] → H a = some o
  kt : ∀ a ps, H0 a = some (.tbl ps) → ¬ A0 a → ∃ qs, H a = some (.tbl qs)
  tb : LamX.Tabs T H
theorem Fr.ext {T : List (Addr × Str)} {H0 : Hp} {A0 : Addr → Prop} {H H' : Hp} (f : Fr T H0 A0 H) (e : ∀ b o, H b = some o → H' b = some o) : Fr T H0 A0 H' := ⟨fun a o h n t => e a o (f.ke a o h n t), fun a ps h n => by
  obtain ⟨qs, z⟩ := f.kt a ps h n
  exact ⟨qs, e _ _ z⟩, f.tb.ext e⟩
theorem Fr.ne {T : List (Addr × Str)} {H0 : Hp} {A0 : Addr → Prop} {H : Hp} (f : Fr T H0 A0 H) {a : Addr} {o : HO} (h : H0 a = some o) (n : ¬ A0 a) : H a ≠ none := fun z => by
  by_cases t : NT o
  · rw [f.ke a o h n (.inl t)] at z; cases z
  · obtain ⟨ps, e⟩ := Classical.not_forall.mp t
    rw [Classical.not_not.mp e] at h
    obtain ⟨qs, y⟩ := f.kt a ps h n
    rw [y] at z; cases z
/-- the owned thing at a is written -/
theorem Fr.upd {T : List (Addr × Str)} {H0 : Hp} {A0 : Addr → Prop} {H : Hp} (f : Fr T H0 A0 H) {a : Addr} {o o' : HO} (e : H a = some o) (n : NT o) (st : ¬ Stl o) (m : A0 a ∨ H0 a = none) : Fr T H0 A0 (upd H a o') := by
  have ne : ∀ b x, H0 b = some x → ¬ A0 b → b ≠ a := fun b x hb nb z => by
    subst z
    rcases m with z | z
    · exact nb z
    · rw [hb] at z; cases z
  refine ⟨fun b x hb nb t => by rw [upd_ne (ne b x hb nb)]; exact f.ke b x hb nb t, fun b ps hb nb => ?_, tabs_upd f.tb e n st⟩
  obtain ⟨qs, z⟩ := f.kt b ps hb nb
  exact ⟨qs, by rw [upd_ne (ne b _ hb nb)]; exact z⟩
structure RelX (K : PySem.W.Frag) (B : Ba) (lv : List (Nat × V)) (st tm : List Vl) (σ : L2.St) (tv : List V) (H : Hp) (F : Addr → Prop) (O : Addr → Option Ow) : Prop where
  len : st.length = σ.length
  sl : ∀ i d, st[i]? = some d → d = .gone ∨ ∃ v, σ[i]? = some (some v) ∧ VR K F O H (.inl i) v d
  tp : TmR K F O H σ tm tv
  fo : ∀ a, F a → O a = none
  oh : ∀ a w, O a = some w → ∃ o, H a = some o ∧ ¬ Stl o
  fh : ∀ a, F a → H a ≠ none
  fr : Fr B.T B.H0 B.A0 H
  mi : ∀ a w, O a = some w → B.A0 a ∨ B.H0 a = none
  f0 : ∀ a, B.F0 a → F a
  f1 : ∀ a, F a → B.F0 a ∨ B.H0 a = none ∨ B.A0 a
  lk : ∀ p ∈ lv, σ[p.1]? = some (some p.2)
def Rel (K : PySem.W.Frag) (B : Ba) (lv : List (Nat × V)) (st tm : List Vl) (σ : L2.St) (tv : List V) (H : Hp) : Prop := ∃ F O, RelX K B lv st tm σ tv H F O

section
variable {K : PySem.W.Frag} {B : Ba} {lv : List (Nat × V)} {st tm : List Vl} {σ : L2.St} {tv : List V} {H H' : Hp} {F F' : Addr → Prop} {O O' : Addr → Option Ow} {v : V} {d : Vl} {a p : Addr}
theorem TmR.keep (hF : ∀ a, F a → F' a) (hH : Kp F H H') (σ' : L2.St) : ∀ {tm : List Vl} {tv : List V}, (hO : ∀ a n, n < tm.length → O a = some (.inr n) → O' a = some (.inr n)) → (hW : ∀ a o n, n < tm.length → O a = some (.inr n) → NT o → H a = some o → H' a = some o) →
    (hb : ∀ i v, Vl.bor i ∈ tm → σ[i]? = some (some v) → σ'[i]? = some (some v)) → TmR K F O H σ tm tv → TmR K F' O' H' σ' tm tv
  | [], [], _, _, _, _ => trivial
  | d :: tm, v :: tv, hO, hW, hb, ⟨h, r⟩ => by
    refine ⟨?_, TmR.keep hF hH σ' (fun a n hn => hO a n (Nat.lt_succ_of_lt hn)) (fun a o n hn => hW a o n (Nat.lt_succ_of_lt hn)) (fun i v hi => hb i v (List.mem_cons_of_mem _ hi)) r⟩
    rcases h with ⟨i, e, h⟩ | h
    · exact .inl ⟨i, e, hb i v (by rw [e]; exact List.mem_cons_self) h⟩
    · exact .inr (VR.keep hF hH (fun a => hO a _ (Nat.lt_succ_self _)) (fun a o => hW a o _ (Nat.lt_succ_self _)) h)
  | [], _ :: _, _, _, _, h => h.elim
  | _ :: _, [], _, _, _, h => h.elim
/-- all that was there stays; owners stay -/
theorem RelX.grow (R : RelX K B lv st tm σ tv H F O) (hH : ∀ a o, H a = some o → H' a = some o) (hO : ∀ a w, O a = some w → O' a = some w)
    (fo : ∀ a, F a → O' a = none) (oh : ∀ a w, O' a = some w → ∃ o, H' a = some o ∧ ¬ Stl o) (mi : ∀ a w, O' a = some w → B.A0 a ∨ B.H0 a = none) : RelX K B lv st tm σ tv H' F O' := by
  refine ⟨R.len, fun i d e => ?_, R.tp.keep (fun _ h => h) (fun a o h _ _ => hH a o h) σ (fun a n _ => hO a _) (fun a o n _ _ _ => hH a o) (fun _ _ _ h => h), fo, oh, fun a f => ?_, R.fr.ext hH, mi, R.f0, R.f1, R.lk⟩
  · rcases R.sl i d e with h | ⟨v, h1, h2⟩
    · exact .inl h
    · exact .inr ⟨v, h1, h2.keep (fun _ h => h) (fun a o h _ _ => hH a o h) (fun a => hO a _) (fun a o _ _ => hH a o)⟩
  · intro z
    cases e : H a with
    | none => exact R.fh a f e
    | some o => rw [hH a o e] at z; cases z
theorem RelX.push (R : RelX K B lv st tm σ tv H F O) (h : VR K F O H (.inr tm.length) v d) : RelX K B lv st (d :: tm) σ (v :: tv) H F O :=
  ⟨R.len, R.sl, ⟨.inr h, R.tp⟩, R.fo, R.oh, R.fh, R.fr, R.mi, R.f0, R.f1, R.lk⟩
theorem RelX.pop (R : RelX K B lv st (d :: tm) σ (v :: tv) H F O) : RelX K B lv st tm σ tv H F O :=
  ⟨R.len, R.sl, R.tp.2, R.fo, R.oh, R.fh, R.fr, R.mi, R.f0, R.f1, R.lk⟩
theorem Rel.pop (R : Rel K B lv st (d :: tm) σ (v :: tv) H) : Rel K B lv st tm σ tv H := let ⟨F, O, R⟩ := R; ⟨F, O, R.pop⟩
theorem Rel.popAll : ∀ {ds : List Vl} {vs : List V}, ds.length = vs.length → Rel K B lv st (ds ++ tm) σ (vs ++ tv) H → Rel K B lv st tm σ tv H
  | [], [], _, R => R
  | _ :: ds, _ :: vs, e, R => Rel.popAll (Nat.succ.inj e) (Rel.pop R)
  | [], _ :: _, e, _ => by cases e
  | _ :: _, [], e, _ => by cases e
theorem Rel.push_fr {x : PyData} (R : Rel K B lv st tm σ tv H) (h : ∀ F, Rp K F H v x) : Rel K B lv st (.fr x :: tm) σ (v :: tv) H := let ⟨F, O, R⟩ := R; ⟨F, O, R.push (h F)⟩
theorem Rel.int (R : Rel K B lv st tm σ tv H) (i : Int) : Rel K B lv st (.fr (.int i) :: tm) σ (.int i :: tv) H := R.push_fr fun _ => .int i
theorem Rel.bl (R : Rel K B lv st tm σ tv H) (i : Bool) : Rel K B lv st (.fr (.bool i) :: tm) σ (.bl i :: tv) H := R.push_fr fun _ => .bl i
theorem Rel.str (R : Rel K B lv st tm σ tv H) (i : Str) : Rel K B lv st (.fr (.str i) :: tm) σ (.str i :: tv) H := R.push_fr fun _ => .str i
theorem Rel.non (R : Rel K B lv st tm σ tv H) : Rel K B lv st (.fr .none :: tm) σ (.non :: tv) H := R.push_fr fun _ => .non
theorem Rel.cst (R : Rel K B lv st tm σ tv H) (c : V) : Rel K B lv st (.cst c :: tm) σ (c :: tv) H := let ⟨F, O, R⟩ := R; ⟨F, O, R.push rfl⟩

/-! ### what stands at a temp -/
theorem RelX.top (R : RelX K B lv st (d :: tm) σ (v :: tv) H F O) (h : ∀ i, d ≠ .bor i) : VR K F O H (.inr tm.length) v d := by
  rcases R.tp.1 with ⟨i, e, _⟩ | h'
  · exact absurd e (h i)
  · exact h'
theorem Rel.isInt {i : Int} (R : Rel K B lv st (.fr (.int i) :: tm) σ (v :: tv) H) : v = .int i := by
  obtain ⟨F, O, R⟩ := R
  have h : Rp K F H v (.int i) := R.top (fun i z => by cases z)
  cases h; rfl
theorem Rel.isBl {i : Bool} (R : Rel K B lv st (.fr (.bool i) :: tm) σ (v :: tv) H) : v = .bl i := by
  obtain ⟨F, O, R⟩ := R
  have h : Rp K F H v (.bool i) := R.top (fun i z => by cases z)
  cases h; rfl
theorem Rel.isCst {c : V} (R : Rel K B lv st (.cst c :: tm) σ (v :: tv) H) : v = c := by
  obtain ⟨F, O, R⟩ := R
  exact R.top (d := .cst c) (fun i z => by cases z)
/-- what a value is, as data -/
def pyO (st : List Vl) : Vl → Option PyData
  | .fr d => some d
  | .ow ds => some (.list ds)
  | .scr ns => some (.list (ns.map .int))
  | .bor i => match st[i]? with
    | some (.fr d) => some d
    | some (.ow ds) => some (.list ds)
    | some (.scr ns) => some (.list (ns.map .int))
    | _ => none
  | _ => none
/-- .. but the script -/
def pyT (st : List Vl) : Vl → Option PyData
  | .fr d => some d
  | .ow ds => some (.list ds)
  | .bor i => match st[i]? with
    | some (.fr d) => some d
    | some (.ow ds) => some (.list ds)
    | _ => none
  | _ => none
theorem pyO_of_pyT {st : List Vl} {d : Vl} {x : PyData} (e : pyT st d = some x) : pyO st d = some x := by
  cases d with
  | fr _ => exact e
  | ow _ => exact e
  | bor i =>
    unfold pyT at e
    unfold pyO
    dsimp only at e ⊢
    cases q : st[i]? with
    | none => rw [q] at e; cases e
    | some y => rw [q] at e; cases y <;> first | exact e | cases e
  | dk _ => cases e
  | cst _ => cases e
  | scr _ => cases e
  | exn _ => cases e
  | un _ => cases e
  | gone => cases e
theorem vr_view {w : Ow} {x : PyData} (h : VR K F O H w v d) (e : pyT st d = some x) : Rp K F H v x ∨ ∃ a vs ds, x = .list ds ∧ v = .ref a ∧ O a = some w ∧ H a = some (.lst vs) ∧ RpA K F H vs ds := by
  cases d with
  | fr d => cases e; exact .inl h
  | ow ds => cases e; obtain ⟨a, vs, e1, e2, e3, e4⟩ := h; exact .inr ⟨a, vs, ds, rfl, e1, e2, e3, e4⟩
  | dk _ => cases e
  | cst _ => cases e
  | scr _ => cases e
  | exn _ => cases e
  | un _ => cases e
  | gone => cases e
  | bor _ => exact False.elim h
theorem RelX.view {x : PyData} (R : RelX K B lv st (d :: tm) σ (v :: tv) H F O) (e : pyT st d = some x) : Rp K F H v x ∨ ∃ a vs ds w, x = .list ds ∧ v = .ref a ∧ O a = some w ∧ H a = some (.lst vs) ∧ RpA K F H vs ds := by
  rcases R.tp.1 with ⟨i, e1, h1⟩ | h
  · subst e1
    unfold pyT at e
    dsimp only at e
    cases q : st[i]? with
    | none => rw [q] at e; cases e
    | some y =>
      rw [q] at e
      have e' : pyT st y = some x := by
        cases y <;> first | exact e | cases e
      rcases R.sl i y q with z | ⟨v', h2, h3⟩
      · subst z; cases e
      · rw [h1] at h2
        cases h2
        rcases vr_view h3 e' with z | ⟨a, vs, ds, z1, z2, z3, z4⟩
        · exact .inl z
        · exact .inr ⟨a, vs, ds, _, z1, z2, z3, z4⟩
  · rcases vr_view h e with z | ⟨a, vs, ds, z1, z2, z3, z4⟩
    · exact .inl z
    · exact .inr ⟨a, vs, ds, _, z1, z2, z3, z4⟩
/-- .. or the script -/
theorem RelX.viewO {x : PyData} (R : RelX K B lv st (d :: tm) σ (v :: tv) H F O) (e : pyO st d = some x) : pyT st d = some x ∨ ∃ (a : Addr) (ns : List Int), x = .list (ns.map PyData.int) ∧ v = .ref a ∧ SqL K H a (ns.map V.int) := by
  have scr : ∀ (w : Ow) ns, VR K F O H w v (.scr ns) → some (PyData.list (ns.map .int)) = some x → ∃ (a : Addr) (ns : List Int), x = .list (ns.map PyData.int) ∧ v = .ref a ∧ SqL K H a (ns.map V.int) := fun w ns ⟨a, h1, h3⟩ e => by
    cases e
    exact ⟨a, ns, rfl, h1, h3.sq⟩
  cases d with
  | fr _ => exact .inl e
  | ow _ => exact .inl e
  | bor i =>
    rcases R.tp.1 with ⟨i', e1, h1⟩ | h
    · cases e1
      unfold pyO at e
      unfold pyT
      dsimp only at e ⊢
      cases q : st[i]? with
      | none => rw [q] at e; cases e
      | some y =>
        rw [q] at e
        cases y with
        | fr _ => exact .inl e
        | ow _ => exact .inl e
        | scr ns =>
          rcases R.sl i _ q with z | ⟨v', h2, h3⟩
          · cases z
          · rw [h1] at h2; cases h2
            exact .inr (scr _ ns h3 e)
        | dk _ => cases e
        | cst _ => cases e
        | exn _ => cases e
        | un _ => cases e
        | gone => cases e
        | bor _ => cases e
    · exact h.elim
  | exn _ => cases e
  | un _ => cases e
  | scr ns => exact .inr (scr _ ns (R.top (d := .scr ns) (fun i z => by cases z)) e)
  | dk _ => cases e
  | cst _ => cases e
  | gone => cases e
theorem RelX.dp {x : PyData} (R : RelX K B lv st (d :: tm) σ (v :: tv) H F O) (e : pyO st d = some x) : Dq K H v x := by
  rcases R.viewO e with e | ⟨a, ns, rfl, rfl, h⟩
  · rcases R.view e with h | ⟨a, vs, ds, w, rfl, rfl, _, h, r⟩
    · exact Rp.dp _ _ h
    · exact .lst (SqL.of h) (RpA.dp _ _ r)
  · exact .lst h (RpA.dp (F := F) _ _ (RpA.ofInts ns))
theorem Rel.dp {x : PyData} (R : Rel K B lv st (d :: tm) σ (v :: tv) H) (e : pyO st d = some x) : Dq K H v x := let ⟨F, O, R⟩ := R; R.dp e
theorem RelX.lst {ds : List PyData} (R : RelX K B lv st (d :: tm) σ (v :: tv) H F O) (e : pyO st d = some (.list ds)) : ∃ a vs, v = .ref a ∧ SqL K H a vs ∧ RpA K F H vs ds := by
  rcases R.viewO e with e | ⟨a, ns, e', rfl, h⟩
  · rcases R.view e with h | ⟨a, vs, ds', w, e1, rfl, _, h, r⟩
    · cases h with
      | lst f h r => exact ⟨_, _, rfl, SqL.of h, r⟩
    · cases e1; exact ⟨a, vs, rfl, SqL.of h, r⟩
  · cases e'; exact ⟨a, _, rfl, h, RpA.ofInts ns⟩
theorem RelX.lstT {ds : List PyData} (R : RelX K B lv st (d :: tm) σ (v :: tv) H F O) (e : pyT st d = some (.list ds)) : ∃ a vs, v = .ref a ∧ H a = some (.lst vs) ∧ RpA K F H vs ds := by
  rcases R.view e with h | ⟨a, vs, ds', w, e1, rfl, _, h, r⟩
  · cases h with
    | lst f h r => exact ⟨_, _, rfl, h, r⟩
  · cases e1; exact ⟨a, vs, rfl, h, r⟩
theorem RelX.tup {ds : List PyData} (R : RelX K B lv st (d :: tm) σ (v :: tv) H F O) (e : pyO st d = some (.tuple ds)) : ∃ a vs, v = .ref a ∧ SqT K H a vs ∧ RpA K F H vs ds := by
  rcases R.viewO e with e | ⟨a, ns, e', rfl, h⟩
  · rcases R.view e with h | ⟨a, vs, ds', w, e1, rfl, _, h, r⟩
    · cases h with
      | tup h r => exact ⟨_, _, rfl, h, r⟩
    · cases e1
  · cases e'
theorem Rel.lst {ds : List PyData} (R : Rel K B lv st (d :: tm) σ (v :: tv) H) (e : pyO st d = some (.list ds)) : ∃ a vs, v = .ref a ∧ SqL K H a vs ∧ vs.length = ds.length := by
  obtain ⟨F, O, R⟩ := R
  obtain ⟨a, vs, h1, h2, r⟩ := R.lst e
  exact ⟨a, vs, h1, h2, r.length⟩
theorem Rel.tup {ds : List PyData} (R : Rel K B lv st (d :: tm) σ (v :: tv) H) (e : pyO st d = some (.tuple ds)) : ∃ a vs, v = .ref a ∧ SqT K H a vs ∧ vs.length = ds.length := by
  obtain ⟨F, O, R⟩ := R
  obtain ⟨a, vs, h1, h2, r⟩ := R.tup e
  exact ⟨a, vs, h1, h2, r.length⟩
/-- scalars -/
theorem RelX.scal {x : PyData} (R : RelX K B lv st (d :: tm) σ (v :: tv) H F O) (e : pyO st d = some x) : (x = .none → v = .non) ∧ (∀ b, x = .bool b → v = .bl b) ∧ (∀ i, x = .int i → v = .int i) ∧ (∀ i, x = .str i → v = .str i) := by
  have h := R.dp e
  refine ⟨fun q => ?_, fun b q => ?_, fun b q => ?_, fun b q => ?_⟩ <;> (subst q; cases h; rfl)
end
end DL

/-! The data layer, part 2: what changes the state. -/
namespace DL
open PySem PySem.Spec PyProof.Rows L2
section
variable {K : PySem.W.Frag} {B : Ba} {lv : List (Nat × V)} {st tm : List Vl} {σ : L2.St} {tv : List V} {H H' : Hp} {F F' : Addr → Prop} {O O' : Addr → Option Ow} {v : V} {d : Vl} {a p : Addr}

theorem upd_le {o : HO} (hp : H p = none) : ∀ b u, H b = some u → upd H p o b = some u := fun b u e => by
  rw [upd_ne (ne_of_none e hp)]; exact e
/-- a new thing at p that nobody owns -/
theorem RelX.new {o : HO} (R : RelX K B lv st tm σ tv H F O) (hp : H p = none) : RelX K B lv st tm σ tv (upd H p o) F O :=
  R.grow (upd_le hp) (fun _ _ h => h) R.fo (fun b w h => by
    obtain ⟨u, e, n⟩ := R.oh b w h
    exact ⟨u, upd_le hp b u e, n⟩) R.mi
theorem RelX.oh' (R : RelX K B lv st tm σ tv H F O) {w : Ow} (h : O a = some w) (z : H a = none) : False := by
  obtain ⟨o, e, _⟩ := R.oh a w h
  rw [z] at e; cases e
/-- a new thing at p, a temp's -/
theorem RelX.newO {o : HO} (R : RelX K B lv st tm σ tv H F O) (hp : H p = none) (hs : ¬ Stl o) : RelX K B lv st tm σ tv (upd H p o) F (fun b => if b = p then some (.inr tm.length) else O b) :=
  R.grow (upd_le hp) (fun b w h => by
      by_cases e : b = p
      · subst e; exact (R.oh' h hp).elim
      · rw [if_neg e]; exact h)
    (fun b f => by
      by_cases e : b = p
      · subst e; exact absurd hp (R.fh b f)
      · rw [if_neg e]; exact R.fo b f)
    (fun b w h => by
      by_cases e : b = p
      · subst e; rw [upd_same]; exact ⟨o, rfl, hs⟩
      · rw [if_neg e] at h
        rw [upd_ne e]; exact R.oh b w h)
    (fun b w h => by
      by_cases e : b = p
      · subst e
        cases q : B.H0 b with
        | none => exact .inr rfl
        | some o =>
          by_cases n : B.A0 b
          · exact .inl n
          · exact absurd hp (R.fr.ne q n)
      · rw [if_neg e] at h; exact R.mi b w h)
theorem RelX.newTup {vs : List V} {ds : List PyData} (R : RelX K B lv st tm σ tv H F O) (hp : H p = none) (r : RpA K F H vs ds) : RelX K B lv st (.fr (.tuple ds) :: tm) σ (.ref p :: tv) (upd H p (.tup vs)) F O :=
  (R.new hp).push (Rp.tup (SqT.of upd_same) (r.keep (fun _ h => h) (fun b u e _ _ => upd_le hp b u e)))
theorem RelX.newLst {vs : List V} {ds : List PyData} (R : RelX K B lv st tm σ tv H F O) (hp : H p = none) (r : RpA K F H vs ds) : RelX K B lv st (.ow ds :: tm) σ (.ref p :: tv) (upd H p (.lst vs)) F (fun b => if b = p then some (.inr tm.length) else O b) :=
  (R.newO (o := .lst vs) hp (fun z => z)).push ⟨p, vs, rfl, if_pos rfl, upd_same, r.keep (fun _ h => h) (fun b u e _ _ => upd_le hp b u e)⟩
/-- temps as a list of data, the last one on top -/
theorem RelX.frs : ∀ {ds : List PyData} {vs : List V} {tm : List Vl} {tv : List V}, vs.length = ds.length → RelX K B lv st ((ds.map Vl.fr).reverse ++ tm) σ (vs.reverse ++ tv) H F O → RpA K F H vs ds ∧ RelX K B lv st tm σ tv H F O
  | [], [], tm, tv, _, R => ⟨.nil, R⟩
  | d :: ds, v :: vs, tm, tv, e, R => by
    rw [List.map_cons, List.reverse_cons, List.reverse_cons, List.append_assoc, List.append_assoc] at R
    obtain ⟨r, R'⟩ := RelX.frs (ds := ds) (vs := vs) (Nat.succ.inj e) R
    exact ⟨.cons (R'.top (d := .fr d) (fun i z => by cases z)) r, R'.pop⟩
  | [], _ :: _, _, _, e, _ => by cases e
  | _ :: _, [], _, _, e, _ => by cases e

/-! ### freezing -/
/-- who owns behind the freezing of a -/
theorem RelX.frz (R : RelX K B lv st tm σ tv H F O) (h : H a ≠ none) (ho : ∃ w, O a = some w)
    (hs : ∀ i, O a = some (.inl i) → False) (ht : ∀ n, O a = some (.inr n) → tm.length ≤ n) : RelX K B lv st tm σ tv H (fun b => F b ∨ b = a) (fun b => if b = a then none else O b) := by
  have kp : Kp F H H := fun _ _ e _ _ => e
  refine ⟨R.len, fun i d e => ?_, R.tp.keep (fun b f => .inl f) kp σ (fun b n hn e => ?_) (fun b o n _ _ _ e => e) (fun _ _ _ h => h), fun b f => ?_, fun b w e => ?_, fun b f => ?_, R.fr, fun b w e => ?_, fun b f => .inl (R.f0 b f), fun b f => ?_, R.lk⟩
  · rcases R.sl i d e with h | ⟨v, h1, h2⟩
    · exact .inl h
    · refine .inr ⟨v, h1, h2.keep (fun b f => .inl f) kp (fun b e => ?_) (fun b o _ _ e => e)⟩
      by_cases q : b = a
      · subst q; exact (hs i e).elim
      · rw [if_neg q]; exact e
  · by_cases q : b = a
    · subst q; exact absurd (ht n e) (Nat.not_le.mpr hn)
    · rw [if_neg q]; exact e
  · by_cases q : b = a
    · rw [if_pos q]
    · rw [if_neg q]; exact R.fo b (f.resolve_right q)
  · by_cases q : b = a
    · rw [if_pos q] at e; cases e
    · rw [if_neg q] at e; exact R.oh b w e
  · rcases f with f | rfl
    · exact R.fh b f
    · exact h
  · by_cases q : b = a
    · rw [if_pos q] at e; cases e
    · rw [if_neg q] at e; exact R.mi b w e
  · rcases f with f | rfl
    · exact R.f1 b f
    · obtain ⟨w, e⟩ := ho
      rcases R.mi b w e with z | z
      · exact .inr (.inr z)
      · exact .inr (.inl z)
def Vl.frz : Vl → Vl
  | .ow ds => .fr (.list ds)
  | d => d
theorem Rel.frzTop (R : Rel K B lv st (d :: tm) σ (v :: tv) H) : Rel K B lv st (d.frz :: tm) σ (v :: tv) H := by
  cases d with
  | ow ds =>
    obtain ⟨F, O, R⟩ := R
    obtain ⟨a, vs, rfl, ho, h, r⟩ := R.top (d := .ow ds) (fun i z => by cases z)
    have R1 := R.pop
    have R2 : RelX K B lv st tm σ tv H (fun b => F b ∨ b = a) (fun b => if b = a then none else O b) :=
      R1.frz (a := a) (by rw [h]; intro z; cases z) ⟨_, ho⟩ (fun i e => by rw [ho] at e; cases e) (fun n e => by rw [ho] at e; cases e; exact Nat.le_refl _)
    refine ⟨_, _, R2.push (d := .fr (.list ds)) (Rp.lst (.inr rfl) h (r.keep (fun b f => .inl f) fun _ _ e _ _ => e))⟩
  | _ => exact R

/-! ### slots -/
theorem RelX.setSl {i : Nat} {d' : Vl} (R : RelX K B lv st tm σ tv H F O) (hv : d' = .gone ∨ ∃ v, σ[i]? = some (some v) ∧ VR K F O H (.inl i) v d') : RelX K B lv (st.set i d') tm σ tv H F O := by
  refine ⟨by rw [List.length_set]; exact R.len, fun j e h => ?_, R.tp, R.fo, R.oh, R.fh, R.fr, R.mi, R.f0, R.f1, R.lk⟩
  by_cases q : i = j
  · subst q
    by_cases hl : i < st.length
    · rw [List.getElem?_set_self hl] at h
      cases h; exact hv
    · rw [List.getElem?_eq_none (by rw [List.length_set]; exact Nat.not_lt.mp hl)] at h; cases h
  · rw [List.getElem?_set_ne q] at h
    exact R.sl j e h
/-- read a slot with frozen data -/
theorem Rel.copy {i : Nat} {x : PyData} (R : Rel K B lv st tm σ tv H) (e : st[i]? = some (.fr x)) : ∃ v, σ[i]? = some (some v) ∧ Rel K B lv st (.fr x :: tm) σ (v :: tv) H := by
  obtain ⟨F, O, R⟩ := R
  rcases R.sl i _ e with z | ⟨v, h1, h2⟩
  · cases z
  · exact ⟨v, h1, F, O, R.push h2⟩
theorem Rel.copyC {i : Nat} {c : V} (R : Rel K B lv st tm σ tv H) (e : st[i]? = some (.cst c)) : ∃ v, σ[i]? = some (some v) ∧ Rel K B lv st (.cst c :: tm) σ (v :: tv) H := by
  obtain ⟨F, O, R⟩ := R
  rcases R.sl i _ e with z | ⟨v, h1, h2⟩
  · cases z
  · exact ⟨v, h1, F, O, R.push (d := .cst c) h2⟩
/-- an alias of a slot -/
theorem Rel.alias {i : Nat} (R : Rel K B lv st tm σ tv H) (e : st[i]? = some d) (hd : d ≠ .gone) : ∃ v, σ[i]? = some (some v) ∧ Rel K B lv st (.bor i :: tm) σ (v :: tv) H := by
  obtain ⟨F, O, R⟩ := R
  rcases R.sl i _ e with z | ⟨v, h1, h2⟩
  · exact absurd z hd
  · exact ⟨v, h1, F, O, R.len, R.sl, ⟨.inl ⟨i, rfl, h1⟩, R.tp⟩, R.fo, R.oh, R.fh, R.fr, R.mi, R.f0, R.f1, R.lk⟩
/-- a slot's own list is frozen -/
theorem Rel.frzSl {i : Nat} {ds : List PyData} (R : Rel K B lv st tm σ tv H) (e : st[i]? = some (.ow ds)) : Rel K B lv (st.set i (.fr (.list ds))) tm σ tv H := by
  obtain ⟨F, O, R⟩ := R
  rcases R.sl i _ e with z | ⟨v, h1, a, vs, rfl, ho, h, r⟩
  · cases z
  · have R0 : RelX K B lv (st.set i .gone) tm σ tv H F O := R.setSl (.inl rfl)
    have hno : ∀ j d', (st.set i .gone)[j]? = some d' → j = i → d' = .gone := fun j d' q z => by
      subst z
      have hl : j < st.length := (List.getElem?_eq_some_iff.mp e).1
      rw [List.getElem?_set_self hl] at q
      exact (Option.some.inj q).symm
    have kp : Kp F H H := fun _ _ e _ _ => e
    refine ⟨fun b => F b ∨ b = a, fun b => if b = a then none else O b, by rw [List.length_set]; exact R.len, fun j d' q => ?_, R.tp.keep (fun b f => .inl f) kp σ (fun b n hn z => ?_) (fun b o n _ _ _ z => z) (fun _ _ _ h => h), fun b f => ?_, fun b w z => ?_, fun b f => ?_, R.fr, fun b w z => ?_, fun b f => .inl (R.f0 b f), fun b f => ?_, R.lk⟩
    · by_cases hj : i = j
      · subst hj
        have hl : i < st.length := (List.getElem?_eq_some_iff.mp e).1
        rw [List.getElem?_set_self hl] at q
        cases q
        exact .inr ⟨_, h1, Rp.lst (.inr rfl) h (r.keep (fun b f => .inl f) kp)⟩
      · rw [List.getElem?_set_ne hj] at q
        rcases R.sl j d' q with z | ⟨u, g1, g2⟩
        · exact .inl z
        · refine .inr ⟨u, g1, g2.keep (fun b f => .inl f) kp (fun b z => ?_) (fun b o _ _ z => z)⟩
          rw [if_neg]
          · exact z
          · rintro rfl; rw [ho] at z; cases z; exact hj rfl
    · rw [if_neg]
      · exact z
      · rintro rfl; rw [ho] at z; cases z
    · by_cases q : b = a
      · rw [if_pos q]
      · rw [if_neg q]; exact R.fo b (f.resolve_right q)
    · by_cases q : b = a
      · rw [if_pos q] at z; cases z
      · rw [if_neg q] at z; exact R.oh b w z
    · rcases f with f | rfl
      · exact R.fh b f
      · rw [h]; intro z; cases z
    · by_cases q : b = a
      · rw [if_pos q] at z; cases z
      · rw [if_neg q] at z; exact R.mi b w z
    · rcases f with f | rfl
      · exact R.f1 b f
      · rcases R.mi b _ ho with z | z
        · exact .inr (.inr z)
        · exact .inr (.inl z)
/-- the top temp goes to a slot; no temp is an alias of that slot -/
theorem Rel.store {i : Nat} (R : Rel K B lv st (d :: tm) σ (v :: tv) H) (hb : ∀ j, d ≠ .bor j) (hi : i < st.length) (ht : Vl.bor i ∉ tm) (hl : ∀ p ∈ lv, p.1 ≠ i) : Rel K B lv (st.set i d) tm (σ.set i (some v)) tv H := by
  obtain ⟨F, O, R⟩ := R
  have h := R.top hb
  have kp : Kp F H H := fun _ _ e _ _ => e
  have hls : i < σ.length := by rw [← R.len]; exact hi
  refine ⟨F, fun b => if O b = some (.inr tm.length) then some (.inl i) else if O b = some (.inl i) then none else O b, by rw [List.length_set, List.length_set]; exact R.len, fun j d' q => ?_,
    R.tp.2.keep (fun _ f => f) kp _ (fun b n hn z => ?_) (fun b o n _ _ _ z => z) (fun j u hj z => ?_), fun b f => ?_, fun b w z => ?_, R.fh, R.fr, fun b w z => ?_, R.f0, R.f1, fun p hp => ?_⟩
  · by_cases hj : i = j
    · subst hj
      rw [List.getElem?_set_self hi] at q
      cases q
      refine .inr ⟨v, List.getElem?_set_self hls, h.keep (fun _ f => f) kp (fun b z => if_pos z) (fun b o _ _ z => z)⟩
    · rw [List.getElem?_set_ne hj] at q
      rcases R.sl j d' q with z | ⟨u, g1, g2⟩
      · exact .inl z
      · refine .inr ⟨u, by rw [List.getElem?_set_ne hj]; exact g1, g2.keep (fun _ f => f) kp (fun b z => ?_) (fun b o _ _ z => z)⟩
        rw [z, if_neg (by intro y; cases y), if_neg (by intro y; cases y; exact hj rfl)]
  · rw [z, if_neg (by intro y; cases y; exact absurd hn (Nat.lt_irrefl _)), if_neg (by intro y; cases y)]
  · rw [List.getElem?_set_ne]
    · exact z
    · rintro rfl; exact ht hj
  · rw [R.fo b f]; rfl
  · by_cases y : O b = some (.inr tm.length)
    · exact R.oh b _ y
    · rw [if_neg y] at z
      split at z
      · cases z
      · exact R.oh b _ z
  · by_cases y : O b = some (.inr tm.length)
    · exact R.mi b _ y
    · rw [if_neg y] at z
      split at z
      · cases z
      · exact R.mi b _ z
  · rw [List.getElem?_set_ne (fun e => hl p hp e.symm)]; exact R.lk p hp

/-! ### writing at what a slot owns -/
theorem RelX.write {i : Nat} {o' o : HO} {d' : Vl} {u : V} (R : RelX K B lv st tm σ tv H F O) (ho : O a = some (.inl i)) (h : H a = some o) (hnt : NT o) (hn : ¬ Stl o) (hn' : ¬ Stl o') (hu : σ[i]? = some (some u)) (h' : VR K F O (upd H a o') (.inl i) u d') :
    RelX K B lv (st.set i d') tm σ tv (upd H a o') F O := by
  have kp : Kp F H (upd H a o') := fun b x e _ hb => by
    rw [upd_ne]
    · exact e
    · rintro rfl
      rcases hb with f | s
      · rw [R.fo _ f] at ho; cases ho
      · rw [h] at e; cases e; exact hn s
  refine ⟨by rw [List.length_set]; exact R.len, fun j d'' q => ?_, R.tp.keep (fun _ f => f) kp σ (fun b n _ z => z) (fun b x n _ z _ e => ?_) (fun _ _ _ z => z), R.fo, fun b w z => ?_, fun b f => ?_, R.fr.upd h hnt hn (R.mi _ _ ho), R.mi, R.f0, R.f1, R.lk⟩
  · by_cases hj : i = j
    · subst hj
      by_cases hl : i < st.length
      · rw [List.getElem?_set_self hl] at q
        cases q
        exact .inr ⟨u, hu, h'⟩
      · rw [List.getElem?_eq_none (by rw [List.length_set]; exact Nat.not_lt.mp hl)] at q; cases q
    · rw [List.getElem?_set_ne hj] at q
      rcases R.sl j d'' q with z | ⟨u, g1, g2⟩
      · exact .inl z
      · refine .inr ⟨u, g1, g2.keep (fun _ f => f) kp (fun b z => z) (fun b x z _ e => ?_)⟩
        rw [upd_ne]
        · exact e
        · rintro rfl; rw [ho] at z; cases z; exact hj rfl
  · rw [upd_ne]
    · exact e
    · rintro rfl; rw [ho] at z; cases z
  · by_cases q : b = a
    · subst q; rw [upd_same]; exact ⟨o', rfl, hn'⟩
    · rw [upd_ne q]; exact R.oh b w z
  · by_cases q : b = a
    · subst q; rw [upd_same]; intro y; cases y
    · rw [upd_ne q]; exact R.fh b f
/-- a list at a slot, through its alias on top of some temps -/
theorem RelX.ofAlias {i : Nat} {ds : List PyData} (R : RelX K B lv st (.bor i :: tm) σ (v :: tv) H F O) (e : st[i]? = some (.ow ds)) : ∃ a vs, v = .ref a ∧ O a = some (.inl i) ∧ H a = some (.lst vs) ∧ RpA K F H vs ds ∧ σ[i]? = some (some (.ref a)) := by
  rcases R.tp.1 with ⟨j, ej, h1⟩ | h
  · cases ej
    rcases R.sl i _ e with z | ⟨u, h2, a, vs, rfl, h3, h4, h5⟩
    · cases z
    · rw [h1] at h2; cases h2
      exact ⟨a, vs, rfl, h3, h4, h5, h1⟩
  · exact h.elim
/-- the list of slot i is written -/
theorem RelX.putL {i : Nat} {ds : List PyData} {vs : List V} (R : RelX K B lv st tm σ tv H F O) (ho : O a = some (.inl i)) {vs0 : List V} (h : H a = some (.lst vs0)) (hu : σ[i]? = some (some (.ref a))) (r : RpA K F H vs ds) : RelX K B lv (st.set i (.ow ds)) tm σ tv (upd H a (.lst vs)) F O := by
  have kp : Kp F H (upd H a (.lst vs)) := fun b x e _ hb => by
    rw [upd_ne]
    · exact e
    · rintro rfl
      rcases hb with f | s
      · rw [R.fo _ f] at ho; cases ho
      · rw [h] at e; cases e; exact s
  exact R.write ho h (.lst _) (fun z => z) (fun z => z) hu ⟨a, vs, rfl, ho, upd_same, r.keep (fun _ f => f) kp⟩
end
end DL

/-! The data layer, part 3: the judgements over data; expressions. -/
namespace DL
open PySem PySem.Spec PyProof.Rows L2

theorem PE.weak {X : Cx} {e : Expr} {t t' : TE} (h : PE X e t) (i : ∀ σ H Q, t' σ H Q → t σ H Q) : PE X e t' := ⟨fun pins s σ H Q I q => h.run pins s σ H Q I (i σ H Q q)⟩
theorem PT.weak {X : Cx} {e : Expr} {t t' : TT} (h : PT X e t) (i : ∀ σ H Q, t' σ H Q → t σ H Q) : PT X e t' := ⟨fun pins s σ H Q I q => h.run pins s σ H Q I (i σ H Q q)⟩
theorem PW.weak {X : Cx} {e : Expr} {t t' : TT} (h : PW X e t) (i : ∀ σ H Q, t' σ H Q → t σ H Q) : PW X e t' := ⟨fun wh pins s σ H Q I q => h.run wh pins s σ H Q I (i σ H Q q)⟩
theorem PA.weak {X : Cx} {e : List Expr} {t t' : TA} (h : PA X e t) (i : ∀ σ H Q, t' σ H Q → t σ H Q) : PA X e t' := ⟨fun wh pins s σ H Q I q => h.run wh pins s σ H Q I (i σ H Q q)⟩
theorem PS.weak {X : Cx} {e : Stmt} {t t' : TS} (h : PS X e t) (i : ∀ D σ H, t' D σ H → t D σ H) : PS X e t' := ⟨fun pins s σ H D I q => h.run pins s σ H D I (i D σ H q)⟩
theorem PSs.weak {X : Cx} {e : List Stmt} {t t' : TS} (h : PSs X e t) (i : ∀ D σ H, t' D σ H → t D σ H) : PSs X e t' := ⟨fun pins s σ H D I q => h.run pins s σ H D I (i D σ H q)⟩
theorem PG.weak {X : Cx} {e : Expr} {t t' : TG} (h : PG X e t) (i : ∀ v σ H Q, t' v σ H Q → t v σ H Q) : PG X e t' := ⟨fun pins s σ H v u Q I r q => h.run pins s σ H v u Q I r (i v σ H Q q)⟩

/-- the slots that stay are told in lk; those of the def's own call are among them -/
abbrev Lk (B : Ba) (lv : List (Nat × V)) (lk : List Nat) : Prop := (∀ p ∈ lv, p.1 ∈ lk) ∧ ∀ p ∈ B.L0, p ∈ lv
abbrev DT := List Vl → (Vl → List Vl → Prop) → Prop
abbrev DTT := List Vl → (Bool → List Vl → Prop) → Prop
abbrev DTA := List Vl → (List Vl → List Vl → Prop) → Prop
def LE (K : PySem.W.Frag) (B : Ba) (lk : List Nat) (t : DT) : TE := fun σ H Q => ∃ lv st tm tv Q0, Lk B lv lk ∧ Rel K B lv st tm σ tv H ∧ t st Q0 ∧ ∀ d st' v H', Q0 d st' → Rel K B lv st' (d :: tm) σ (v :: tv) H' → Q v H'
def LT (K : PySem.W.Frag) (B : Ba) (lk : List Nat) (t : DTT) : TT := fun σ H Q => ∃ lv st tm tv Q0, Lk B lv lk ∧ Rel K B lv st tm σ tv H ∧ t st Q0 ∧ ∀ b st' H', Q0 b st' → Rel K B lv st' tm σ tv H' → Q b H'
def LA (K : PySem.W.Frag) (B : Ba) (lk : List Nat) (t : DTA) : TA := fun σ H Q => ∃ lv st tm tv Q0, Lk B lv lk ∧ Rel K B lv st tm σ tv H ∧ t st Q0 ∧ ∀ ds st' vs H', Q0 ds st' → vs.length = ds.length → Rel K B lv st' (ds.reverse ++ tm) σ (vs.reverse ++ tv) H' → Q vs H'
abbrev DE (X : Cx) (B : Ba) (lk : List Nat) (e : Expr) (t : DT) : Prop := PE X e (LE X.K B lk t)
abbrev DC (X : Cx) (B : Ba) (lk : List Nat) (e : Expr) (t : DTT) : Prop := PT X e (LT X.K B lk t)
abbrev DW (X : Cx) (B : Ba) (lk : List Nat) (e : Expr) (t : DTT) : Prop := PW X e (LT X.K B lk t)
abbrev DA (X : Cx) (B : Ba) (lk : List Nat) (es : List Expr) (t : DTA) : Prop := PA X es (LA X.K B lk t)

/-! ### constants, names -/
def cK (d : Vl) : DT := fun st Q => Q d st
section
variable {X : Cx} {B : Ba} {lk : List Nat} {a b e : Expr} {es rest : List Expr} {ta tb : DT} {pos : Pos}
theorem de_int {i j} : DE X B lk (.Constant (.int i) j pos) (cK (.fr (.int i))) := PE.weak pe_int fun σ H Q ⟨lv, st, tm, tv, Q0, L, R, h, k⟩ => k _ _ _ _ h (R.int i)
theorem de_str {i j} : DE X B lk (.Constant (.str i) j pos) (cK (.fr (.str i))) := PE.weak pe_str fun σ H Q ⟨lv, st, tm, tv, Q0, L, R, h, k⟩ => k _ _ _ _ h (R.str i)
theorem de_bl {i j} : DE X B lk (.Constant (.bool i) j pos) (cK (.fr (.bool i))) := PE.weak pe_bl fun σ H Q ⟨lv, st, tm, tv, Q0, L, R, h, k⟩ => k _ _ _ _ h (R.bl i)
theorem de_non {j} : DE X B lk (.Constant .none j pos) (cK (.fr .none)) := PE.weak pe_non fun σ H Q ⟨lv, st, tm, tv, Q0, L, R, h, k⟩ => k _ _ _ _ h R.non
/-- a name's value: frozen data is copied, what is owned is an alias -/
def cVar (i : Nat) : DT := fun st Q => match st[i]? with
  | some (.fr x) => Q (.fr x) st
  | some (.cst c) => Q (.cst c) st
  | some (.ow _) => Q (.bor i) st
  | some (.dk _) => Q (.bor i) st
  | some (.scr ns) => Q (.scr ns) st
  | some (.exn x) => Q (.exn x) st
  | some (.un _) => Q (.bor i) st
  | _ => False
theorem Rel.copyS {K : PySem.W.Frag} {lv : List (Nat × V)} {st tm : List Vl} {σ : L2.St} {tv : List V} {H : Hp} {i : Nat} {ns : List Int} (R : Rel K B lv st tm σ tv H) (e : st[i]? = some (.scr ns)) : ∃ v, σ[i]? = some (some v) ∧ Rel K B lv st (.scr ns :: tm) σ (v :: tv) H := by
  obtain ⟨F, O, R⟩ := R
  rcases R.sl i _ e with z | ⟨v, h1, h2⟩
  · cases z
  · exact ⟨v, h1, F, O, R.push (d := .scr ns) h2⟩
theorem Rel.copyX {K : PySem.W.Frag} {lv : List (Nat × V)} {st tm : List Vl} {σ : L2.St} {tv : List V} {H : Hp} {i : Nat} {x : Str} (R : Rel K B lv st tm σ tv H) (e : st[i]? = some (.exn x)) : ∃ v, σ[i]? = some (some v) ∧ Rel K B lv st (.exn x :: tm) σ (v :: tv) H := by
  obtain ⟨F, O, R⟩ := R
  rcases R.sl i _ e with z | ⟨v, h1, h2⟩
  · cases z
  · exact ⟨v, h1, F, O, R.push (d := .exn x) h2⟩
theorem de_var (i : Nat) {x : Str} (hN : X.N[i]? = some x := by rfl) (hv : Vis X.env.scope x := by first | exact Or.inl rfl | exact Or.inr (Or.inl rfl) | exact Or.inr (Or.inr rfl)) (hd : (x == ("__debug__" : Str)) = false := by decide)
    (hcd : (x == ("__classdict__" : Str)) = false := by decide) : DE X B lk (.Name x pos) (cVar i) := PE.weak (pe_var hN hv hd hcd) fun σ H Q ⟨lv, st, tm, tv, Q0, L, R, h, k⟩ => by
  unfold cVar at h
  cases q : st[i]? with
  | none => rw [q] at h; exact h.elim
  | some d =>
    rw [q] at h
    cases d with
    | fr x => obtain ⟨v, h1, R'⟩ := R.copy q; exact ⟨v, h1, k _ _ _ _ h R'⟩
    | cst x => obtain ⟨v, h1, R'⟩ := R.copyC q; exact ⟨v, h1, k _ _ _ _ h R'⟩
    | scr x => obtain ⟨v, h1, R'⟩ := R.copyS q; exact ⟨v, h1, k _ _ _ _ h R'⟩
    | exn x => obtain ⟨v, h1, R'⟩ := R.copyX q; exact ⟨v, h1, k _ _ _ _ h R'⟩
    | ow x => obtain ⟨v, h1, R'⟩ := R.alias q (by intro z; cases z); exact ⟨v, h1, k _ _ _ _ h R'⟩
    | dk x => obtain ⟨v, h1, R'⟩ := R.alias q (by intro z; cases z); exact ⟨v, h1, k _ _ _ _ h R'⟩
    | un x => obtain ⟨v, h1, R'⟩ := R.alias q (by intro z; cases z); exact ⟨v, h1, k _ _ _ _ h R'⟩
    | bor _ => exact h.elim
    | gone => exact h.elim
/-- a global that is a constant of the module (a scalar), a class, a def -/
theorem de_globI {x : Str} {i : Int} {u : Value} (hg : Gl X x) (hm : X.mg x = some u) (r : RelV (.int i) u) (hd : (x == ("__debug__" : Str)) = false := by decide) : DE X B lk (.Name x pos) (cK (.fr (.int i))) :=
  PE.weak (pe_glob hg hm r hd) fun σ H Q ⟨lv, st, tm, tv, Q0, L, R, h, k⟩ => k _ _ _ _ h (R.int i)
theorem de_globC {x : Str} {c : V} {u : Value} (hg : Gl X x) (hm : X.mg x = some u) (r : RelV c u) (hd : (x == ("__debug__" : Str)) = false := by decide) : DE X B lk (.Name x pos) (cK (.cst c)) :=
  PE.weak (pe_glob hg hm r hd) fun σ H Q ⟨lv, st, tm, tv, Q0, L, R, h, k⟩ => k _ _ _ _ h (R.cst c)
theorem de_bltn {x : Str} {c : V} {u : Value} (hg : Gl X x) (hm : X.mg x = none) (hv : bootBuiltins x = some u) (r : RelV c u) (hn : x ≠ "__name__" := by decide) (hd : (x == ("__debug__" : Str)) = false := by decide) : DE X B lk (.Name x pos) (cK (.cst c)) :=
  PE.weak (pe_bltn hg hm hv r hn hd) fun σ H Q ⟨lv, st, tm, tv, Q0, L, R, h, k⟩ => k _ _ _ _ h (R.cst c)

/-! ### taking over what is owned -/
/-- frozen: a fresh list, or a slot's own one (which is frozen there, too) -/
def cFrz (t : DT) : DT := fun st Q => t st fun d st' => match d with
  | .bor i => match st'[i]? with
    | some (.ow ds) => Q (.fr (.list ds)) (st'.set i (.fr (.list ds)))
    | _ => False
  | .ow ds => Q (.fr (.list ds)) st'
  | .fr d => Q (.fr d) st'
  | .cst c => Q (.cst c) st'
  | _ => False
theorem Rel.frzAlias {K : PySem.W.Frag} {lv : List (Nat × V)} {st tm : List Vl} {σ : L2.St} {v : V} {tv : List V} {H : Hp} {i : Nat} {ds : List PyData} (R : Rel K B lv st (.bor i :: tm) σ (v :: tv) H) (e : st[i]? = some (.ow ds)) :
    Rel K B lv (st.set i (.fr (.list ds))) (.fr (.list ds) :: tm) σ (v :: tv) H := by
  have hi : i < st.length := (List.getElem?_eq_some_iff.mp e).1
  have R1 := R.pop.frzSl e
  obtain ⟨u, h1, R2⟩ := R1.copy (i := i) (x := .list ds) (List.getElem?_set_self hi)
  obtain ⟨F, O, R⟩ := R
  obtain ⟨a, vs, e1, _, _, _, e2⟩ := R.ofAlias e
  rw [e2] at h1; cases h1; rw [e1]; exact R2
theorem de_frz (h : DE X B lk e ta) : DE X B lk e (cFrz ta) := PE.weak h fun σ H Q ⟨lv, st, tm, tv, Q0, L, R, h, k⟩ => by
  refine ⟨lv, st, tm, tv, _, L, R, h, fun d st' v H' q R' => ?_⟩
  cases d with
  | fr x => exact k _ _ _ _ q R'
  | ow ds => exact k _ _ _ _ q R'.frzTop
  | cst c => exact k _ _ _ _ q R'
  | bor i =>
    try dsimp only at q
    cases z : st'[i]? with
    | none => rw [z] at q; exact q.elim
    | some d =>
      rw [z] at q
      cases d with
      | ow ds => exact k _ _ _ _ q (R'.frzAlias z)
      | _ => exact False.elim q
  | _ => exact False.elim q
/-! ### operators -/
/-- a binary operation by data -/
abbrev DOp := List Vl → Vl → Vl → (Vl → List Vl → Prop) → Prop
def c2 (g : DOp) (ta tb : DT) : DT := fun st Q => ta st fun x st1 => tb st1 fun y st2 => g st2 x y Q
def DOk (K : PySem.W.Frag) (B : Ba) (g : DOp) (r : R2) : Prop := ∀ lv st tm σ tv H x y u v Q0 (Q : VK), Rel K B lv st (y :: x :: tm) σ (v :: u :: tv) H → g st x y Q0 → (∀ d st' w H', Q0 d st' → Rel K B lv st' (d :: tm) σ (w :: tv) H' → Q w H') → r u v H Q
theorem c2_weak {K : PySem.W.Frag} {g : DOp} {r : R2} (ok : DOk K B g r) {σ : L2.St} {H : Hp} {Q : VK} (h : LE K B lk (c2 g ta tb) σ H Q) : tOp r (LE K B lk ta) (LE K B lk tb) σ H Q := by
  obtain ⟨lv, st, tm, tv, Q0, L, R, h, k⟩ := h
  refine ⟨lv, st, tm, tv, _, L, R, h, fun x st1 u H1 h1 R1 => ?_⟩
  refine ⟨lv, st1, x :: tm, u :: tv, _, L, R1, h1, fun y st2 v H2 h2 R2 => ?_⟩
  exact ok lv st2 tm σ tv H2 x y u v Q0 Q R2 h2 fun d st' w H' q R' => k d st' w H' q R'
theorem de_op {op : Operator} {r : R2} {g : DOp} (ho : OpR X (binaryOp op) r) (ok : DOk X.K B g r) (ha : DE X B lk a ta) (hb : DE X B lk b tb) : DE X B lk (.BinOp a op b pos) (c2 g ta tb) := PE.weak (pe_op ho ha hb) fun _ _ _ h => c2_weak ok h
theorem de_cmp {op : CmpOp} {r : R2} {g : DOp} (ho : OpR X (compareOp op) r) (ok : DOk X.K B g r) (ha : DE X B lk a ta) (hb : DE X B lk b tb) (hm : behindInMarks op b = false) : DE X B lk (.Compare a [op] [b] pos) (c2 g ta tb) := PE.weak (pe_cmpR ho ha hb hm) fun _ _ _ h => c2_weak ok h
theorem de_ix {r : R2} {g : DOp} (hr : IxR X r) (ok : DOk X.K B g r) (ha : DE X B lk a ta) (hb : DE X B lk b tb) (hs : PlainIx b) : DE X B lk (.Subscript a b pos) (c2 g ta tb) := PE.weak (pe_ix hr ha hb hs) fun _ _ _ h => c2_weak ok h

/-- two ints -/
def gI (C : Int → Int → Prop) (f : Int → Int → PyData) : DOp := fun st x y Q => match x, y with
  | .fr (.int i), .fr (.int j) => C i j ∧ Q (.fr (f i j)) st
  | _, _ => False
theorem gI_ok {K : PySem.W.Frag} {C : Int → Int → Prop} {f : Int → Int → PyData} {g : Int → Int → V} (hf : ∀ F H i j, Rp K F H (g i j) (f i j)) {r : R2} (hr : ∀ i j H (Q : VK), C i j → Q (g i j) H → r (.int i) (.int j) H Q) : DOk K B (gI C f) r := by
  intro lv st tm σ tv H x y u v Q0 Q R h k
  unfold gI at h
  split at h
  · rename_i i j
    obtain ⟨c, h⟩ := h
    obtain rfl := R.isInt
    obtain rfl := R.pop.isInt
    exact hr i j H Q c (k _ _ _ _ h (R.pop.pop.push_fr fun F => hf F H i j))
  · exact h.elim
theorem gI_oki {K : PySem.W.Frag} {C : Int → Int → Prop} {f : Int → Int → Int} : DOk K B (gI C fun i j => .int (f i j)) (rI C fun i j => .int (f i j)) :=
  gI_ok (g := fun i j => .int (f i j)) (fun _ _ _ _ => .int _) fun i j H Q c q => ⟨i, j, rfl, rfl, c, q⟩
theorem gI_okb {K : PySem.W.Frag} {f : Int → Int → Bool} : DOk K B (gI (fun _ _ => True) fun i j => .bool (f i j)) (rI0 fun i j => .bl (f i j)) :=
  gI_ok (g := fun i j => .bl (f i j)) (fun _ _ _ _ => .bl _) fun i j H Q c q => ⟨i, j, rfl, rfl, q⟩
theorem de_sub (ha : DE X B lk a ta) (hb : DE X B lk b tb) : DE X B lk (.BinOp a .Sub b pos) (c2 (gI (fun _ _ => True) fun i j => .int (i - j)) ta tb) :=
  de_op op_sub (gI_ok (g := fun i j => .int (i - j)) (fun _ _ _ _ => .int _) fun i j H Q c q => ⟨i, j, rfl, rfl, q⟩) ha hb
theorem de_ge (ha : DE X B lk a ta) (hb : DE X B lk b tb) : DE X B lk (.Compare a [.GtE] [b] pos) (c2 (gI (fun _ _ => True) fun i j => .bool (decide (j ≤ i))) ta tb) := de_cmp op_ge gI_okb ha hb (nomark _)
/-- + of ints, texts, lists, tuples -/
def gAdd : DOp := fun st x y Q => match pyT st x, pyT st y with
  | some (.int i), some (.int j) => Q (.fr (.int (i + j))) st
  | some (.str a), some (.str b) => a.length + b.length ≤ sizeLine ∧ Q (.fr (.str (a ++ b))) st
  | some (.list a), some (.list b) => a.length + b.length ≤ sizeLine ∧ Q (.ow (a ++ b)) st
  | some (.tuple a), some (.tuple b) => a.length + b.length ≤ sizeLine ∧ Q (.fr (.tuple (a ++ b))) st
  | _, _ => False
def rAdd4 (K : PySem.W.Frag) : R2 := fun x y H Q => (∃ i j, x = .int i ∧ y = .int j ∧ Q (.int (i + j)) H) ∨ (∃ i j, x = .str i ∧ y = .str j ∧ i.length + j.length ≤ sizeLine ∧ Q (.str (i ++ j)) H) ∨ rCat x y H Q ∨ rCatA K x y H Q
theorem op_add4 : OpR X (binaryOp .Add) (rAdd4 X.K) := op_add.or (op_add_str.or (op_cat.or op_catA))
end

section
variable {X : Cx} {B : Ba} {lk : List Nat} {a b e : Expr} {es rest : List Expr} {ta tb : DT} {pos : Pos} {K : PySem.W.Frag}
theorem pyT_int {K : PySem.W.Frag} {B : Ba} {lv : List (Nat × V)} {st tm : List Vl} {σ : L2.St} {tv : List V} {H : Hp} {x : Vl} {u : V} {i : Int} (R : Rel K B lv st (x :: tm) σ (u :: tv) H) (e : pyT st x = some (.int i)) : u = .int i := by
  obtain ⟨F, O, R⟩ := R
  exact (R.scal (pyO_of_pyT e)).2.2.1 i rfl
theorem pyT_str {K : PySem.W.Frag} {B : Ba} {lv : List (Nat × V)} {st tm : List Vl} {σ : L2.St} {tv : List V} {H : Hp} {x : Vl} {u : V} {i : Str} (R : Rel K B lv st (x :: tm) σ (u :: tv) H) (e : pyT st x = some (.str i)) : u = .str i := by
  obtain ⟨F, O, R⟩ := R
  exact (R.scal (pyO_of_pyT e)).2.2.2 i rfl
theorem gAdd_ok : DOk K B gAdd (rAdd4 K) := by
  intro lv st tm σ tv H x y u v Q0 Q R h k
  unfold gAdd at h
  split at h
  · rename_i i j e1 e2
    obtain rfl := pyT_int R e2
    obtain rfl := pyT_int R.pop e1
    exact .inl ⟨i, j, rfl, rfl, k _ _ _ _ h (R.pop.pop.int _)⟩
  · rename_i i j e1 e2
    obtain rfl := pyT_str R e2
    obtain rfl := pyT_str R.pop e1
    exact .inr (.inl ⟨i, j, rfl, rfl, h.1, k _ _ _ _ h.2 (R.pop.pop.str _)⟩)
  · rename_i i j e1 e2
    obtain ⟨F, O, R⟩ := R
    obtain ⟨a, vs, rfl, h1, r1⟩ := R.lstT e2
    obtain ⟨b, ws, rfl, h2, r2⟩ := R.pop.lstT e1
    refine .inr (.inr (.inl ⟨b, a, ws, vs, rfl, rfl, h2, h1, by rw [r1.length, r2.length]; exact h.1, fun p hp => k _ _ _ _ h.2 ⟨F, _, R.pop.pop.newLst hp (r2.append r1)⟩⟩))
  · rename_i i j e1 e2
    obtain ⟨F, O, R⟩ := R
    obtain ⟨a, vs, rfl, h1, r1⟩ := R.tup (pyO_of_pyT e2)
    obtain ⟨b, ws, rfl, h2, r2⟩ := R.pop.tup (pyO_of_pyT e1)
    refine .inr (.inr (.inr ⟨b, a, ws, vs, rfl, rfl, h2, h1, by rw [r1.length, r2.length]; exact h.1, fun z => ?_, fun z1 z2 => ?_, fun z1 z2 p hp => k _ _ _ _ h.2 ⟨F, _, R.pop.pop.newTup hp (r2.append r1)⟩⟩))
    · subst z
      cases r2
      exact k _ _ _ _ h.2 ⟨F, O, R.pop.pop.push (d := .fr (.tuple ([] ++ j))) (Rp.tup h1 r1)⟩
    · subst z2
      cases r1
      exact k _ _ _ _ h.2 ⟨F, O, R.pop.pop.push (d := .fr (.tuple (i ++ []))) (Rp.tup h2 (by rw [List.append_nil]; exact r2))⟩
  · exact h.elim
theorem de_add (ha : DE X B lk a ta) (hb : DE X B lk b tb) : DE X B lk (.BinOp a .Add b pos) (c2 gAdd ta tb) := de_op op_add4 gAdd_ok ha hb
/-- * of ints; of a list, of a tuple by an int: see DL4 -/
theorem op_mulA : OpR X (binaryOp .Mult) (rI IntMulOk fun i j => .int (i * j)) := opI fun _ _ _ _ _ _ _ hc q => mul_int q hc
theorem de_mul (ha : DE X B lk a ta) (hb : DE X B lk b tb) : DE X B lk (.BinOp a .Mult b pos) (c2 (gI IntMulOk fun i j => .int (i * j)) ta tb) := de_op op_mulA gI_oki ha hb
theorem mulL {i j : Int} (h1 : -(2 ^ 64) < i) (h2 : i < 2 ^ 64) : IntMulOk i j := .of_left (intBits_le_64 h1 h2)
theorem mulR {i j : Int} (h1 : -(2 ^ 64) < j) (h2 : j < 2 ^ 64) : IntMulOk i j := .of_right (intBits_le_64 h1 h2)
def CD (_ j : Int) : Prop := 0 < j ∧ j < 2 ^ 1000
theorem CD.log {i j : Int} (h : CD i j) : j.natAbs.log2 < 9000 := by
  have h1 : j.natAbs < 2 ^ 1000 := by
    have := h.1
    have := h.2
    omega
  have := (Nat.log2_lt (by have := h.1; omega)).mpr h1
  omega
theorem op_fdivA : OpR X (binaryOp .FloorDiv) (rI CD fun i j => .int (i / j)) := opI fun i j _ _ _ _ _ hc q => by
  refine floordiv_int (by have := hc.1; omega) ?_ (.inl (PyProof.noPylong_of_log2 hc.log))
  rw [Int.fdiv_eq_ediv_of_nonneg _ (by have := hc.1; omega)]; exact q
theorem de_fdiv (ha : DE X B lk a ta) (hb : DE X B lk b tb) : DE X B lk (.BinOp a .FloorDiv b pos) (c2 (gI CD fun i j => .int (i / j)) ta tb) := de_op op_fdivA gI_oki ha hb
theorem de_mod (ha : DE X B lk a ta) (hb : DE X B lk b tb) : DE X B lk (.BinOp a .Mod b pos) (c2 (gI (fun _ j => 0 < j) fun i j => .int (i % j)) ta tb) := de_op op_mod gI_oki ha hb
theorem de_pow (ha : DE X B lk a ta) (hb : DE X B lk b tb) : DE X B lk (.BinOp a .Pow b pos) (c2 (gI CPow fun i j => .int (i ^ j.toNat)) ta tb) := de_op op_pow gI_oki ha hb
/-- no dict within, at most k deep -/
def dep : Nat → PyData → Bool
  | _, .none => true
  | _, .bool _ => true
  | _, .int _ => true
  | _, .str _ => true
  | 0, .list _ => false
  | 0, .tuple _ => false
  | _, .dict _ => false
  | k + 1, .list xs => xs.all (dep k)
  | k + 1, .tuple xs => xs.all (dep k)
theorem dep_all {k : Nat} (h : ∀ d, dep k d = true → d.plain = true ∧ d.depth ≤ k) : ∀ xs : List PyData, xs.all (dep k) = true → PyData.plainAll xs = true ∧ PyData.depthAll xs ≤ k
  | [], _ => ⟨rfl, Nat.zero_le _⟩
  | x :: xs, e => by
    rw [List.all_cons, Bool.and_eq_true] at e
    obtain ⟨a, b⟩ := h x e.1
    obtain ⟨c, d⟩ := dep_all h xs e.2
    refine ⟨by rw [PyData.plainAll, a, c]; rfl, ?_⟩
    rw [PyData.depthAll]
    exact Nat.max_le.mpr ⟨b, d⟩
theorem dep_ok : ∀ (k : Nat) (d : PyData), dep k d = true → d.plain = true ∧ d.depth ≤ k
  | k, .none, _ => ⟨rfl, Nat.zero_le _⟩
  | k, .bool _, _ => ⟨rfl, Nat.zero_le _⟩
  | k, .int _, _ => ⟨rfl, Nat.zero_le _⟩
  | k, .str _, _ => ⟨rfl, Nat.zero_le _⟩
  | 0, .list _, h => by simp [dep] at h
  | 0, .tuple _, h => by simp [dep] at h
  | 0, .dict _, h => by simp [dep] at h
  | k + 1, .dict _, h => by simp [dep] at h
  | k + 1, .list xs, h => by
    obtain ⟨a, b⟩ := dep_all (dep_ok k) xs (by simpa [dep] using h)
    exact ⟨by simpa [PyData.plain] using a, by simp only [PyData.depth]; omega⟩
  | k + 1, .tuple xs, h => by
    obtain ⟨a, b⟩ := dep_all (dep_ok k) xs (by simpa [dep] using h)
    exact ⟨by simpa [PyData.plain] using a, by simp only [PyData.depth]; omega⟩
theorem dep_nd : ∀ (k : Nat) (d : PyData), dep k d = true → nd d = true
  | k, .none, _ => by simp [nd]
  | k, .bool _, _ => by simp [nd]
  | k, .int _, _ => by simp [nd]
  | k, .str _, _ => by simp [nd]
  | 0, .list _, h => by simp [dep] at h
  | 0, .tuple _, h => by simp [dep] at h
  | 0, .dict _, h => by simp [dep] at h
  | k + 1, .dict _, h => by simp [dep] at h
  | k + 1, .list xs, h => by
    rw [nd]
    exact ndA_of fun x hx => dep_nd k x (List.all_eq_true.mp (by simpa [dep] using h) x hx)
  | k + 1, .tuple xs, h => by
    rw [nd]
    exact ndA_of fun x hx => dep_nd k x (List.all_eq_true.mp (by simpa [dep] using h) x hx)
theorem dep_ndA {k : Nat} {xs : List PyData} (h : xs.all (dep k) = true) : ndA xs = true := ndA_of fun x hx => dep_nd k x (List.all_eq_true.mp h x hx)
theorem dep_list {k : Nat} {xs : List PyData} (h : xs.all (dep k) = true) : PyData.plainAll xs = true ∧ PyData.depthAll xs ≤ k := dep_all (dep_ok k) xs h
abbrev Un0 (X : Cx) : Prop := X.A.units + 100 < cLine
/-- == and != of data -/
def gEq (neg : Bool) : DOp := fun st x y Q => match pyO st x, pyO st y with
  | some d, some e => dep 60 d = true ∧ dep 60 e = true ∧ Q (.fr (.bool (if neg then !PyData.eqv d e else PyData.eqv d e))) st
  | _, _ => False
def rEqP (K : PySem.W.Frag) (neg : Bool) : R2 := fun x y H Q => ∃ d e, Dq K H x d ∧ Dq K H y e ∧ dep 60 d = true ∧ dep 60 e = true ∧ Q (.bl (if neg then !PyData.eqv d e else PyData.eqv d e)) H
theorem op_eqP (hu : Un0 X) : OpR X (compareOp .Eq) (rEqP X.K false) := by
  intro pins s σ H x y v u Q I rx ry h
  obtain ⟨d, e, hd, he, sd, se, q⟩ := h
  obtain ⟨as, r1⟩ := Dq.reads I d x v (dep_nd _ _ sd) hd rx
  obtain ⟨bs, r2⟩ := Dq.reads I e y u (dep_nd _ _ se) he ry
  have e1 := dep_ok 60 d sd
  have e2 := dep_ok 60 e se
  exact SeqAt.eq_plain r1 r2 e1.1 e2.1 (by have := e1.2; have : min d.depth e.depth ≤ d.depth := Nat.min_le_left _ _; have hu' : X.A.units + 100 < cLine := hu; omega) ⟨.bl _, H, I, rfl, q⟩
theorem op_neP (hu : Un0 X) : OpR X (compareOp .NotEq) (rEqP X.K true) := by
  intro pins s σ H x y v u Q I rx ry h
  obtain ⟨d, e, hd, he, sd, se, q⟩ := h
  obtain ⟨as, r1⟩ := Dq.reads I d x v (dep_nd _ _ sd) hd rx
  obtain ⟨bs, r2⟩ := Dq.reads I e y u (dep_nd _ _ se) he ry
  have e1 := dep_ok 60 d sd
  have e2 := dep_ok 60 e se
  exact SeqAt.ne_plain r1 r2 e1.1 e2.1 (by have := e1.2; have : min d.depth e.depth ≤ d.depth := Nat.min_le_left _ _; have hu' : X.A.units + 100 < cLine := hu; omega) ⟨.bl _, H, I, rfl, q⟩
theorem gEq_ok {neg : Bool} : DOk K B (gEq neg) (rEqP K neg) := fun lv st tm σ tv H x y u v Q0 Q R h k => by
    unfold gEq at h
    split at h
    · rename_i d e e1 e2
      obtain ⟨s1, s2, q⟩ := h
      exact ⟨d, e, R.pop.dp e1, R.dp e2, s1, s2, k _ _ _ _ q (R.pop.pop.bl _)⟩
    · exact h.elim
theorem de_eq (hu : Un0 X) (ha : DE X B lk a ta) (hb : DE X B lk b tb) : DE X B lk (.Compare a [.Eq] [b] pos) (c2 (gEq false) ta tb) := de_cmp (op_eqP hu) gEq_ok ha hb (nomark _)
theorem de_ne (hu : Un0 X) (ha : DE X B lk a ta) (hb : DE X B lk b tb) : DE X B lk (.Compare a [.NotEq] [b] pos) (c2 (gEq true) ta tb) := de_cmp (op_neP hu) gEq_ok ha hb (nomark _)
/-- in, not in: a list, a tuple -/
def rInA (K : PySem.W.Frag) (neg : Bool) : R2 := fun x y H Q => ∃ d ds, Dq K H x d ∧ (Dq K H y (.list ds) ∨ Dq K H y (.tuple ds)) ∧ dep 60 d = true ∧ ds.all (dep 60) = true ∧ Q (.bl (if neg then !ds.any fun z => PyData.eqv z d else ds.any fun z => PyData.eqv z d)) H
def gIn (neg : Bool) : DOp := fun st x y Q => match pyO st x, pyO st y with
  | some d, some (.list ds) => dep 60 d = true ∧ ds.all (dep 60) = true ∧ Q (.fr (.bool (if neg then !ds.any fun z => PyData.eqv z d else ds.any fun z => PyData.eqv z d))) st
  | some d, some (.tuple ds) => dep 60 d = true ∧ ds.all (dep 60) = true ∧ Q (.fr (.bool (if neg then !ds.any fun z => PyData.eqv z d else ds.any fun z => PyData.eqv z d))) st
  | _, _ => False
theorem gIn_ok {neg : Bool} : DOk K B (gIn neg) (rInA K neg) := by
  intro lv st tm σ tv H x y u v Q0 Q R h k
  unfold gIn at h
  split at h
  · rename_i d ds e1 e2
    obtain ⟨s1, s2, q⟩ := h
    exact ⟨d, ds, R.pop.dp e1, .inl (R.dp e2), s1, s2, k _ _ _ _ q (R.pop.pop.bl _)⟩
  · rename_i d ds e1 e2
    obtain ⟨s1, s2, q⟩ := h
    exact ⟨d, ds, R.pop.dp e1, .inr (R.dp e2), s1, s2, k _ _ _ _ q (R.pop.pop.bl _)⟩
  · exact h.elim
theorem op_inA (hu : Un0 X) : OpR X (compareOp .In) (rInA X.K false) := by
  intro pins s σ H x y v u Q I rx ry h
  obtain ⟨d, ds, hd, he, sd, se, q⟩ := h
  obtain ⟨as, r1⟩ := Dq.reads I d x v (dep_nd _ _ sd) hd rx
  have e1 := dep_ok 60 d sd
  have e2 := dep_list se
  have hm : X.A.units + 1 + min (PyData.depthAll ds) d.depth < cLine := by have := e1.2; have : min (PyData.depthAll ds) d.depth ≤ d.depth := Nat.min_le_right _ _; have hu' : X.A.units + 100 < cLine := hu; omega
  rcases he with he | he
  · obtain ⟨bs, r2⟩ := Dq.reads I (.list ds) y u (dep_ndA se) he ry
    exact SeqAt.in_list_data r2 r1 e2.1 e1.1 hm ⟨.bl _, H, I, rfl, q⟩
  · obtain ⟨bs, r2⟩ := Dq.reads I (.tuple ds) y u (dep_ndA se) he ry
    exact SeqAt.in_tuple_data r2 r1 e2.1 e1.1 hm ⟨.bl _, H, I, rfl, q⟩
theorem op_notInA (hu : Un0 X) : OpR X (compareOp .NotIn) (rInA X.K true) := by
  intro pins s σ H x y v u Q I rx ry h
  obtain ⟨d, ds, hd, he, sd, se, q⟩ := h
  obtain ⟨as, r1⟩ := Dq.reads I d x v (dep_nd _ _ sd) hd rx
  have e1 := dep_ok 60 d sd
  have e2 := dep_list se
  have hm : X.A.units + 1 + min (PyData.depthAll ds) d.depth < cLine := by have := e1.2; have : min (PyData.depthAll ds) d.depth ≤ d.depth := Nat.min_le_right _ _; have hu' : X.A.units + 100 < cLine := hu; omega
  rcases he with he | he
  · obtain ⟨bs, r2⟩ := Dq.reads I (.list ds) y u (dep_ndA se) he ry
    exact SeqAt.notIn_list_data r2 r1 e2.1 e1.1 hm ⟨.bl _, H, I, rfl, q⟩
  · obtain ⟨bs, r2⟩ := Dq.reads I (.tuple ds) y u (dep_ndA se) he ry
    exact SeqAt.notIn_tuple_data r2 r1 e2.1 e1.1 hm ⟨.bl _, H, I, rfl, q⟩
theorem de_notIn (hu : Un0 X) (ha : DE X B lk a ta) (hb : DE X B lk b tb) (hm : behindInMarks .NotIn b = false := by rfl) : DE X B lk (.Compare a [.NotIn] [b] pos) (c2 (gIn true) ta tb) := de_cmp (op_notInA hu) gIn_ok ha hb hm
/-! ### subscripts -/
def gIx : DOp := fun st x y Q => match pyO st x, y with
  | some (.list ds), .fr (.int i) => ∃ d, atI ds i = some d ∧ Q (.fr d) st
  | some (.tuple ds), .fr (.int i) => ∃ d, atI ds i = some d ∧ Q (.fr d) st
  | some (.str z), .fr (.int i) => ∃ c, z.length ≤ sizeLine ∧ atI z.cps.toList i = some c ∧ Q (.fr (.str ⟨#[c]⟩)) st
  | _, _ => False
theorem atI_rp {F : Addr → Prop} {H : Hp} {vs : List V} {ds : List PyData} {i : Int} {d : PyData} (r : RpA K F H vs ds) (h : atI ds i = some d) : ∃ v, atI vs i = some v ∧ Rp K F H v d := by
  unfold atI at h ⊢
  rw [r.length]
  cases e : ixN ds.length i with
  | none => rw [e] at h; cases h
  | some j =>
    rw [e] at h
    exact r.get h
theorem gIx_ok : DOk K B gIx (rIx K) := by
  intro lv st tm σ tv H x y u v Q0 Q R h k
  unfold gIx at h
  split at h
  · rename_i ds i e1
    obtain ⟨d, hd, q⟩ := h
    obtain rfl := R.isInt
    obtain ⟨F, O, R⟩ := R
    obtain ⟨a, vs, rfl, h1, r⟩ := R.pop.lst e1
    obtain ⟨w, hw, rw⟩ := atI_rp r hd
    exact .inl ⟨a, vs, i, w, rfl, rfl, h1, hw, k _ _ _ _ q ⟨F, O, R.pop.pop.push (d := .fr d) rw⟩⟩
  · rename_i ds i e1
    obtain ⟨d, hd, q⟩ := h
    obtain rfl := R.isInt
    obtain ⟨F, O, R⟩ := R
    obtain ⟨a, vs, rfl, h1, r⟩ := R.pop.tup e1
    obtain ⟨w, hw, rw⟩ := atI_rp r hd
    exact .inr (.inl ⟨a, vs, i, w, rfl, rfl, h1, hw, k _ _ _ _ q ⟨F, O, R.pop.pop.push (d := .fr d) rw⟩⟩)
  · rename_i z i e1
    obtain ⟨c, hl, hd, q⟩ := h
    obtain rfl := R.isInt
    have hu : u = .str z := by
      obtain ⟨F, O, R⟩ := R
      exact (R.pop.scal e1).2.2.2 z rfl
    exact .inr (.inr ⟨z, i, c, hu, rfl, hl, hd, k _ _ _ _ q (R.pop.pop.str _)⟩)
  · exact h.elim
theorem de_sub' (ha : DE X B lk a ta) (hb : DE X B lk b tb) (hs : PlainIx b := by exact fun _ _ => rfl) : DE X B lk (.Subscript a b pos) (c2 gIx ta tb) := de_ix ix_seq gIx_ok ha hb hs

/-! ### unary minus -/
def c1 (g : List Vl → Vl → (Vl → List Vl → Prop) → Prop) (ta : DT) : DT := fun st Q => ta st fun x st1 => g st1 x Q
def gNeg : List Vl → Vl → (Vl → List Vl → Prop) → Prop := fun st x Q => match x with
  | .fr (.int i) => Q (.fr (.int (-i))) st
  | _ => False
theorem de_neg (ha : DE X B lk a ta) : DE X B lk (.UnaryOp .USub a pos) (c1 gNeg ta) := PE.weak (pe_un un_neg ha) fun σ H Q ⟨lv, st, tm, tv, Q0, L, R, h, k⟩ => by
  refine ⟨lv, st, tm, tv, _, L, R, h, fun d st' v H' q R' => ?_⟩
  unfold gNeg at q
  split at q
  · obtain rfl := R'.isInt
    exact ⟨_, rfl, k _ _ _ _ q (R'.pop.int _)⟩
  · exact q.elim

/-! ### tests -/
def cTst (t : DT) : DTT := fun st Q => t st fun d st' => match d with
  | .fr (.bool b) => Q b st'
  | _ => False
theorem le_tst {K : PySem.W.Frag} {t : DT} {σ : L2.St} {H : Hp} {Q : Bool → Hp → Prop} (h : LT K B lk (cTst t) σ H Q) : LE K B lk t σ H (fun x H1 => ∃ c, x = .bl c ∧ Q c H1) := by
  obtain ⟨lv, st, tm, tv, Q0, L, R, h, k⟩ := h
  refine ⟨lv, st, tm, tv, _, L, R, h, fun d st' v H' q R' => ?_⟩
  try dsimp only at q
  split at q
  · obtain rfl := R'.isBl
    exact ⟨_, rfl, k _ _ _ q R'.pop⟩
  · exact q.elim
theorem dc_val {t : DT} (h : DE X B lk e t) (he : ∀ whole, isTrue e X.env whole = (do let v ← whole; standAt e.pos; holding [v] (truthy v)) := by intro _; rfl) : DC X B lk e (cTst t) := PT.weak (pt_val h he) fun σ H Q q => le_tst q
theorem dc_cmp {op : CmpOp} {r : R2} {g : DOp} (ho : OpR X (compareOp op) r) (ok : DOk X.K B g r) (ha : DE X B lk a ta) (hb : DE X B lk b tb) (hm : behindInMarks op b = false) : DC X B lk (.Compare a [op] [b] pos) (cTst (c2 g ta tb)) :=
  PT.weak (pt_cmpR ho ha hb hm) fun σ H Q ⟨lv, st, tm, tv, Q0, L, R, h, k⟩ => by
    refine c2_weak ok ⟨lv, st, tm, tv, _, L, R, h, fun d st' v H' q R' => ?_⟩
    try dsimp only at q
    split at q
    · obtain rfl := R'.isBl
      exact ⟨_, rfl, k _ _ _ q R'.pop⟩
    · exact q.elim
theorem dc_lt (ha : DE X B lk a ta) (hb : DE X B lk b tb) : DC X B lk (.Compare a [.Lt] [b] pos) (cTst (c2 (gI (fun _ _ => True) fun i j => .bool (decide (i < j))) ta tb)) := dc_cmp op_lt gI_okb ha hb (nomark _)
theorem dc_le (ha : DE X B lk a ta) (hb : DE X B lk b tb) : DC X B lk (.Compare a [.LtE] [b] pos) (cTst (c2 (gI (fun _ _ => True) fun i j => .bool (decide (i ≤ j))) ta tb)) := dc_cmp op_le gI_okb ha hb (nomark _)
theorem dc_gt (ha : DE X B lk a ta) (hb : DE X B lk b tb) : DC X B lk (.Compare a [.Gt] [b] pos) (cTst (c2 (gI (fun _ _ => True) fun i j => .bool (decide (j < i))) ta tb)) := dc_cmp op_gt gI_okb ha hb (nomark _)
theorem dc_eq (hu : Un0 X) (ha : DE X B lk a ta) (hb : DE X B lk b tb) : DC X B lk (.Compare a [.Eq] [b] pos) (cTst (c2 (gEq false) ta tb)) := dc_cmp (op_eqP hu) gEq_ok ha hb (nomark _)
theorem dc_ne (hu : Un0 X) (ha : DE X B lk a ta) (hb : DE X B lk b tb) : DC X B lk (.Compare a [.NotEq] [b] pos) (cTst (c2 (gEq true) ta tb)) := dc_cmp (op_neP hu) gEq_ok ha hb (nomark _)
variable {tA tB' : DTT}
def cAnd (t u : DTT) : DTT := fun st Q => t st fun c st1 => if c = true then u st1 Q else Q false st1
def cOr (t u : DTT) : DTT := fun st Q => t st fun c st1 => if c = true then Q true st1 else u st1 Q
def cNot (t : DTT) : DTT := fun st Q => t st fun c st1 => Q (!c) st1
theorem dw_and1 (ha : DC X B lk a tA) : DW X B lk (.BoolOp .And [a] pos) tA := pw_and1 ha
theorem dw_or1 (ha : DC X B lk a tA) : DW X B lk (.BoolOp .Or [a] pos) tA := pw_or1 ha
theorem dw_and (ha : DC X B lk a tA) (hb : DW X B lk (.BoolOp .And (b :: rest) pos) tB') : DW X B lk (.BoolOp .And (a :: b :: rest) pos) (cAnd tA tB') := PW.weak (pw_and ha hb) fun σ H Q ⟨lv, st, tm, tv, Q0, L, R, h, k⟩ => by
  refine ⟨lv, st, tm, tv, _, L, R, h, fun c st' H' q R' => ?_⟩
  cases c with
  | true => rw [if_pos rfl] at q ⊢; exact ⟨lv, st', tm, tv, Q0, L, R', q, k⟩
  | false => rw [if_neg Bool.false_ne_true] at q ⊢; exact k _ _ _ q R'
theorem dw_or (ha : DC X B lk a tA) (hb : DW X B lk (.BoolOp .Or (b :: rest) pos) tB') : DW X B lk (.BoolOp .Or (a :: b :: rest) pos) (cOr tA tB') := PW.weak (pw_or ha hb) fun σ H Q ⟨lv, st, tm, tv, Q0, L, R, h, k⟩ => by
  refine ⟨lv, st, tm, tv, _, L, R, h, fun c st' H' q R' => ?_⟩
  cases c with
  | true => rw [if_pos rfl] at q ⊢; exact k _ _ _ q R'
  | false => rw [if_neg Bool.false_ne_true] at q ⊢; exact ⟨lv, st', tm, tv, Q0, L, R', q, k⟩
theorem dc_not (ha : DC X B lk a tA) : DC X B lk (.UnaryOp .Not a pos) (cNot tA) := PT.weak (pt_not ha) fun σ H Q ⟨lv, st, tm, tv, Q0, L, R, h, k⟩ =>
  ⟨lv, st, tm, tv, _, L, R, h, fun c st' H' q R' => k _ _ _ q R'⟩
/-- .. as values -/
def cAndV (ta tb : DT) : DT := fun st Q => ta st fun d st1 => match d with
  | .fr (.bool c) => if c = true then tb st1 Q else Q (.fr (.bool false)) st1
  | _ => False
def cNotV (ta : DT) : DT := fun st Q => ta st fun d st1 => match d with
  | .fr (.bool c) => Q (.fr (.bool (!c))) st1
  | _ => False
theorem de_one {op} (h : DE X B lk a ta) : DE X B lk (.BoolOp op [a] pos) ta := pe_one h
theorem de_and (ha : DE X B lk a ta) (hb : DE X B lk (.BoolOp .And (b :: rest) pos) tb) : DE X B lk (.BoolOp .And (a :: b :: rest) pos) (cAndV ta tb) := PE.weak (pe_and ha hb) fun σ H Q ⟨lv, st, tm, tv, Q0, L, R, h, k⟩ => by
  refine ⟨lv, st, tm, tv, _, L, R, h, fun d st' v H' q R' => ?_⟩
  try dsimp only at q
  split at q
  · rename_i c
    obtain rfl := R'.isBl
    refine ⟨c, rfl, ?_⟩
    cases c with
    | true => rw [if_pos rfl] at q ⊢; exact ⟨lv, st', tm, tv, Q0, L, R'.pop, q, k⟩
    | false => rw [if_neg Bool.false_ne_true] at q ⊢; exact k _ _ _ _ q (R'.pop.bl _)
  · exact q.elim
theorem de_not (ha : DE X B lk a ta) : DE X B lk (.UnaryOp .Not a pos) (cNotV ta) := PE.weak (pe_not ha) fun σ H Q ⟨lv, st, tm, tv, Q0, L, R, h, k⟩ => by
  refine ⟨lv, st, tm, tv, _, L, R, h, fun d st' v H' q R' => ?_⟩
  try dsimp only at q
  split at q
  · obtain rfl := R'.isBl
    exact ⟨_, rfl, k _ _ _ _ q (R'.pop.bl _)⟩
  · exact q.elim
/-- a chain of two comparisons of ints -/
def cCh (p q : Int → Int → Bool) (ta tb tc : DT) : DT := fun st Q => ta st fun x st1 => tb st1 fun y st2 => match x, y with
  | .fr (.int i), .fr (.int j) => if p i j = true then tc st2 fun z st3 => (match z with | .fr (.int k) => Q (.fr (.bool (q j k))) st3 | _ => False) else Q (.fr (.bool false)) st2
  | _, _ => False
theorem ch_weak {K : PySem.W.Frag} {p q : Int → Int → Bool} {tc : DT} {σ : L2.St} {H : Hp} {Q : VK} (h : LE K B lk (cCh p q ta tb tc) σ H Q) :
    tChain (rI0 fun i j => .bl (p i j)) (rI0 fun i j => .bl (q i j)) (LE K B lk ta) (LE K B lk tb) (LE K B lk tc) σ H Q := by
  obtain ⟨lv, st, tm, tv, Q0, L, R, h, k⟩ := h
  refine ⟨lv, st, tm, tv, _, L, R, h, fun x st1 u H1 h1 R1 => ?_⟩
  refine ⟨lv, st1, x :: tm, u :: tv, _, L, R1, h1, fun y st2 v H2 h2 R2 => ?_⟩
  try dsimp only at h2
  split at h2
  · rename_i i j
    obtain rfl := R2.isInt
    obtain rfl := R2.pop.isInt
    refine ⟨i, j, rfl, rfl, _, rfl, ?_⟩
    by_cases c : p i j = true
    · rw [if_pos c] at h2 ⊢
      refine ⟨lv, st2, _, _, _, L, R2, h2, fun z st3 w H3 h3 R3 => ?_⟩
      try dsimp only at h3
      split at h3
      · obtain rfl := R3.isInt
        exact ⟨_, _, rfl, rfl, k _ _ _ _ h3 (R3.pop.pop.pop.bl _)⟩
      · exact h3.elim
    · rw [if_neg c] at h2 ⊢
      exact k _ _ _ _ h2 (R2.pop.pop.bl _)
  · exact h2.elim
theorem de_ch {op op' : CmpOp} {p q : Int → Int → Bool} {c : Expr} {tc : DT} (ho : OpR X (compareOp op) (rI0 fun i j => .bl (p i j))) (ho' : OpR X (compareOp op') (rI0 fun i j => .bl (q i j))) (ha : DE X B lk a ta) (hb : DE X B lk b tb) (hc : DE X B lk c tc)
    (hm : lastMarks [op, op'] [b, c] = false := by with_unfolding_all rfl) : DE X B lk (.Compare a [op, op'] [b, c] pos) (cCh p q ta tb tc) := PE.weak (pe_chain ho ho' ha hb hc hm) fun _ _ _ h => ch_weak h
theorem dc_ch {op op' : CmpOp} {p q : Int → Int → Bool} {c : Expr} {tc : DT} (ho : OpR X (compareOp op) (rI0 fun i j => .bl (p i j))) (ho' : OpR X (compareOp op') (rI0 fun i j => .bl (q i j))) (ha : DE X B lk a ta) (hb : DE X B lk b tb) (hc : DE X B lk c tc)
    (hm : lastMarks [op, op'] [b, c] = false := by with_unfolding_all rfl) : DC X B lk (.Compare a [op, op'] [b, c] pos) (cTst (cCh p q ta tb tc)) := PT.weak (pt_chain ho ho' ha hb hc hm) fun σ H Q h => by
  have h' : LE X.K B lk (cCh p q ta tb tc) σ H (fun x H1 => ∃ c, x = .bl c ∧ Q c H1) := le_tst h
  exact ch_weak h'

/-! ### argument lists, displays -/
def cNil : DTA := fun st Q => Q [] st
def cCons (ta : DT) (tr : DTA) : DTA := fun st Q => ta st fun x st1 => tr st1 fun xs st2 => Q (x :: xs) st2
theorem da_nil : DA X B lk [] cNil := PA.weak pa_nil fun σ H Q ⟨lv, st, tm, tv, Q0, L, R, h, k⟩ => k [] st [] H h rfl R
theorem da_cons {t : DTA} (ha : DE X B lk e ta) (hr : DA X B lk es t) (hs : starEach (e :: es) X.env = (false, eval e X.env) :: starEach es X.env := by rfl) : DA X B lk (e :: es) (cCons ta t) :=
  PA.weak (pa_cons ha hr hs) fun σ H Q ⟨lv, st, tm, tv, Q0, L, R, h, k⟩ => by
    refine ⟨lv, st, tm, tv, _, L, R, h, fun x st1 u H1 h1 R1 => ?_⟩
    refine ⟨lv, st1, x :: tm, u :: tv, _, L, R1, h1, fun xs st2 us H2 h2 hl R2 => ?_⟩
    refine k (x :: xs) st2 (u :: us) H2 h2 (congrArg (· + 1) hl) ?_
    rw [List.reverse_cons, List.reverse_cons, List.append_assoc, List.append_assoc]
    exact R2
def frs : List Vl → Option (List PyData)
  | [] => some []
  | .fr d :: ds => (frs ds).map (d :: ·)
  | _ :: _ => none
theorem frs_eq : ∀ {ds : List Vl} {xs : List PyData}, frs ds = some xs → ds = xs.map Vl.fr
  | [], xs, h => by cases h; rfl
  | .fr d :: ds, xs, h => by
    unfold frs at h
    cases e : frs ds with
    | none => rw [e] at h; cases h
    | some ys =>
      rw [e] at h
      cases h
      rw [frs_eq e]; rfl
  | .ow _ :: _, _, h => by cases h
  | .dk _ :: _, _, h => by cases h
  | .cst _ :: _, _, h => by cases h
  | .scr _ :: _, _, h => by cases h
  | .exn _ :: _, _, h => by cases h
  | .un _ :: _, _, h => by cases h
  | .bor _ :: _, _, h => by cases h
  | .gone :: _, _, h => by cases h
/-- a tuple, a list of frozen items -/
def cTup (t : DTA) : DT := fun st Q => t st fun ds st' => match frs ds with
  | some xs => xs.length ≤ sizeLine ∧ Q (.fr (.tuple xs)) st'
  | none => False
def cLst (t : DTA) : DT := fun st Q => t st fun ds st' => match frs ds with
  | some xs => xs.length ≤ sizeLine ∧ Q (.ow xs) st'
  | none => False
theorem de_tup {x1} {t : DTA} (h : DA X B lk es t) : DE X B lk (.Tuple es x1 pos) (cTup t) := PE.weak (pe_tup h) fun σ H Q ⟨lv, st, tm, tv, Q0, L, R, h, k⟩ => by
  refine ⟨lv, st, tm, tv, _, L, R, h, fun ds st' vs H' q hl R' => ?_⟩
  try dsimp only at q
  cases e : frs ds with
  | none => rw [e] at q; exact q.elim
  | some xs =>
    rw [e] at q
    obtain rfl := frs_eq e
    obtain ⟨F, O, R'⟩ := R'
    obtain ⟨r, R2⟩ := R'.frs (by simpa using hl)
    exact ⟨by rw [r.length]; exact q.1, fun p hp => k _ _ _ _ q.2 ⟨F, _, R2.newTup hp r⟩⟩
theorem de_lst {t : DTA} (h : DA X B lk es t) : DE X B lk (.List es pos) (cLst t) := PE.weak (pe_lst h) fun σ H Q ⟨lv, st, tm, tv, Q0, L, R, h, k⟩ => by
  refine ⟨lv, st, tm, tv, _, L, R, h, fun ds st' vs H' q hl R' => ?_⟩
  try dsimp only at q
  cases e : frs ds with
  | none => rw [e] at q; exact q.elim
  | some xs =>
    rw [e] at q
    obtain rfl := frs_eq e
    obtain ⟨F, O, R'⟩ := R'
    obtain ⟨r, R2⟩ := R'.frs (by simpa using hl)
    exact ⟨by rw [r.length]; exact q.1, fun p hp => k _ _ _ _ q.2 ⟨F, _, R2.newLst hp r⟩⟩
end
end DL

/-! The data layer, part 4: the call of a def; a def's promise over data. -/
namespace DL
open PySem PySem.Spec PyProof.Rows L2
variable {T : List (Addr × Str)}

/-- an exception of the program: its class, its attribute at -/
structure Xn where
  cls : Str
  at_ : Option PyData
def XnR (K : PySem.W.Frag) (mg : Str → Option Value) (F : Addr → Prop) (H : Hp) (x : Xn) (cls : Value) (d : Option Addr) : Prop :=
  cls = .ref (He.ga K x.cls) ∧ match x.at_ with
  | none => d = none
  | some p => ∃ dd v, d = some dd ∧ H dd = some (.xd [("at", v)]) ∧ Rp K F H v p
/-- a def's promise over data: the arguments, what is wanted of the result and the arguments behind, what is wanted of an exception -/
abbrev VSp := List Vl → (Vl → List Vl → Prop) → (Xn → List Vl → Prop) → Prop
structure Pre (K : PySem.W.Frag) (T : List (Addr × Str)) (F0 : Addr → Prop) (O0 : Addr → Option Nat) (ds : List Vl) (vs : List V) (H : Hp) : Prop where
  len : ds.length = vs.length
  av : ∀ i d v, ds[i]? = some d → vs[i]? = some v → d = .gone ∨ VR K F0 (fun a => (O0 a).map Sum.inl) H (.inl i) v d
  fo : ∀ a, F0 a → O0 a = none
  fh : ∀ a, F0 a → H a ≠ none
  oh : ∀ a i, O0 a = some i → ∃ o, H a = some o ∧ ¬ Stl o
  tb : LamX.Tabs T H
structure Post (K : PySem.W.Frag) (T : List (Addr × Str)) (F0 : Addr → Prop) (O0 : Addr → Option Nat) (vs : List V) (H : Hp) (lk : List Nat) (ds' : List Vl) (H' : Hp) (F' : Addr → Prop) (O' : Addr → Option Ow) : Prop where
  av : ∀ i ∈ lk, ∀ d v, ds'[i]? = some d → vs[i]? = some v → d = .gone ∨ VR K F' O' H' (.inl i) v d
  fo : ∀ a, F' a → O' a = none
  oh : ∀ a w, O' a = some w → ∃ o, H' a = some o ∧ ¬ Stl o
  fh : ∀ a, F' a → H' a ≠ none
  fr : Fr T H (fun a => O0 a ≠ none) H'
  mi : ∀ a w, O' a = some w → O0 a ≠ none ∨ H a = none
  f0 : ∀ a, F0 a → F' a
  f1 : ∀ a, F' a → F0 a ∨ H a = none ∨ O0 a ≠ none
def spV (T : List (Addr × Str)) (K : PySem.W.Frag) (mg : Str → Option Value) (lk : List Nat) (n : Nat) (S : VSp) : Sp := fun vs H Q E => vs.length = n ∧ ∃ F0 O0 ds Q0 E0, Pre K T F0 O0 ds vs H ∧ S ds Q0 E0 ∧
  (∀ r ds' v H' F' O', Q0 r ds' → Post K T F0 O0 vs H lk ds' H' F' O' → VR K F' O' H' (.inr 0) v r → Q v H') ∧
  (∀ x ds' cls d H' F' O', E0 x ds' → Post K T F0 O0 vs H lk ds' H' F' O' → XnR K mg F' H' x cls d → E cls d H')
/-- the promise of a def where no repr is under way -/
structure FnG (P : Program) (w : World) (K : PySem.W.Frag) (mg : Str → Option Value) (base : Heap) (CX : CXT) (k : Nat) (f : Addr) (fd : FuncData) (ps : List Str) (sp : Sp) : Prop where
  len : ∀ vs H Q E, sp vs H Q E → vs.length = ps.length
  run : ∀ (A : Around) (outer : List Env) (s : Shared) (H : Hp) (args : Args) (us : List Value) (vs : List V) (Q : VK) (E : XK), Room k A → A.guards = some [] → Env0 P w K mg base A outer s H → BindsTo s fd args (ps.zip us) → Vals vs us → sp vs H Q E →
    codeAny (model P w) A (.call (.ref f) args) (CR CX outer P w H s Q E) s
section
variable {X : Cx} {CX : CXT} {k : Nat} {f : Addr} {fd : FuncData} {ps : List Str} {sp : Sp} {E : XK} {x : Str} {p pos : Pos} {e : Expr} {es : List Expr} {t : TA}
theorem run_fnG {pins : List (Addr × Obj)} {σ : L2.St} {H : Hp} {s : Shared} {Q : VK} {us : List Value} {vs : List V} (F : FnG X.prog X.w X.K X.mg X.base CX k f fd ps sp) (hr : Room k X.A) (hgd : X.A.guards = some []) (hb : Binds X.K fd ps []) (hx : Passes CX X E)
    (I : Inv X pins σ H s) (r : Vals vs us) (h : sp vs H Q E) : wpAny (model X.prog X.w) X.A (call (.ref f) us) (EP X pins σ Q) X.xe s := by
  have hl : us.length = ps.length := by rw [← r.length]; exact F.len _ _ _ _ h
  have hb' := hb s us I.kIn (by rw [List.append_nil]; exact hl)
  rw [List.append_nil] at hb'
  refine wpAny_call (codeAny_mono (F.run X.A X.stack s H ⟨us, []⟩ us vs Q E hr hgd I.env0 hb' r h) fun r s' hq => ?_)
  match r, hq with
  | .error e, hq => exact hx pins σ H s e s' I hq
  | .ok (.ret u), hq => exact I.after hq
  | .ok .next, hq => exact False.elim hq
  | .ok .brk, hq => exact False.elim hq
  | .ok .cont, hq => exact False.elim hq
def tCallG (sp : Sp) (E : XK) (t : TA) : TE := fun σ H Q => t σ H fun vs H1 => sp vs H1 Q E
theorem pe_callG (F : FnG X.prog X.w X.K X.mg X.base CX k f fd ps sp) (hr : Room k X.A) (hgd : X.A.guards = some []) (hg : Gl X x) (hm : X.mg x = some (.ref f)) (hk : PySem.W.keepIn X.K (.ref f) = true) (hb : Binds X.K fd ps []) (hx : Passes CX X E)
    (ha : PA X (e :: es) t) (hdb : (x == ("__debug__" : Str)) = false := by decide) (he : starEach (e :: es) X.env = (false, eval e X.env) :: starEach es X.env := by rfl) (hpl : (backTo pos (starEach es X.env)).any (·.1) = false := by rfl) :
    PE X (.Call (.Name x p) (e :: es) [] pos) (tCallG sp E t) := by
  refine ⟨fun pins s σ H Q I h => ?_⟩
  refine wpAny_Call_Name_kw (ld_glob I hg hm ?_ hdb)
  refine PySem.W.callWith_K (h₀ := X.base) I.ok.mod.kin hk (thn (ha.run pos pins s σ H _ I h) fun us s1 ⟨vs, H1, I1, r, q⟩ => ⟨I1.kIn, ?_⟩) he hpl
  exact run_fnG F hr hgd hb hx I1 r q
end
/-- the def x of the module keeps S; CX: what it lets out -/
structure Def (T : List (Addr × Str)) (P : Program) (w : World) (K : PySem.W.Frag) (mg : Str → Option Value) (base : Heap) (CX : CXT) (k : Nat) (x : Str) (lk : List Nat) (n : Nat) (S : VSp) : Prop where
  ex : ∃ f fd ps, mg x = some (.ref f) ∧ FnG P w K mg base CX k f fd ps (spV T K mg lk n S) ∧ Binds K fd ps [] ∧ PySem.W.keepIn K (.ref f) = true

/-! ### the caller's side -/
def isB (i : Nat) : Vl → Bool
  | .bor j => i == j
  | _ => false
/-- what stands behind an alias -/
def res (st : List Vl) : Vl → Vl
  | .bor i => (st[i]?).getD .gone
  | d => d
/-- the aliases' slots behind a call -/
def upds (ds' : List Vl) : Nat → List Vl → List Vl → List Vl
  | _, [], st => st
  | j, .bor i :: ds, st => upds ds' (j + 1) ds (st.set i ((ds'[j]?).getD .gone))
  | j, _ :: ds, st => upds ds' (j + 1) ds st
/-- aliases stand only where the def gives back, each once -/
def okB (lk : List Nat) : Nat → List Vl → Bool
  | _, [] => true
  | j, .bor i :: ds => lk.contains j && !(ds.any (isB i)) && okB lk (j + 1) ds
  | j, _ :: ds => okB lk (j + 1) ds
theorem upds_len (ds' : List Vl) : ∀ (ds : List Vl) (j : Nat) (st : List Vl), (upds ds' j ds st).length = st.length
  | [], _, _ => rfl
  | .bor i :: ds, j, st => by rw [upds, upds_len ds' ds, List.length_set]
  | .fr _ :: ds, j, st => upds_len ds' ds _ _
  | .ow _ :: ds, j, st => upds_len ds' ds _ _
  | .dk _ :: ds, j, st => upds_len ds' ds _ _
  | .cst _ :: ds, j, st => upds_len ds' ds _ _
  | .scr _ :: ds, j, st => upds_len ds' ds _ _
  | .exn _ :: ds, j, st => upds_len ds' ds _ _
  | .un _ :: ds, j, st => upds_len ds' ds _ _
  | .gone :: ds, j, st => upds_len ds' ds _ _
theorem upds_out (ds' : List Vl) {i : Nat} : ∀ (ds : List Vl) (j : Nat) (st : List Vl), ds.any (isB i) = false → (upds ds' j ds st)[i]? = st[i]?
  | [], _, _, _ => rfl
  | .bor k :: ds, j, st, h => by
    rw [List.any_cons, Bool.or_eq_false_iff] at h
    rw [upds, upds_out ds' ds _ _ h.2, List.getElem?_set_ne]
    have := h.1
    intro e
    subst e
    simp [isB] at this
  | .fr _ :: ds, j, st, h => upds_out ds' ds _ _ (by simpa [isB] using h)
  | .ow _ :: ds, j, st, h => upds_out ds' ds _ _ (by simpa [isB] using h)
  | .dk _ :: ds, j, st, h => upds_out ds' ds _ _ (by simpa [isB] using h)
  | .cst _ :: ds, j, st, h => upds_out ds' ds _ _ (by simpa [isB] using h)
  | .scr _ :: ds, j, st, h => upds_out ds' ds _ _ (by simpa [isB] using h)
  | .exn _ :: ds, j, st, h => upds_out ds' ds _ _ (by simpa [isB] using h)
  | .un _ :: ds, j, st, h => upds_out ds' ds _ _ (by simpa [isB] using h)
  | .gone :: ds, j, st, h => upds_out ds' ds _ _ (by simpa [isB] using h)
theorem upds_in (ds' : List Vl) {lk : List Nat} {i : Nat} : ∀ (ds : List Vl) (j : Nat) (st : List Vl), okB lk j ds = true → i < st.length → ds.any (isB i) = true → ∃ m, ds[m]? = some (.bor i) ∧ (j + m) ∈ lk ∧ (upds ds' j ds st)[i]? = some ((ds'[j + m]?).getD .gone)
  | [], _, _, _, _, h => by simp at h
  | .bor k :: ds, j, st, ok, hi, h => by
    rw [okB, Bool.and_eq_true, Bool.and_eq_true] at ok
    by_cases e : i = k
    · subst e
      refine ⟨0, rfl, by simpa using ok.1.1, ?_⟩
      rw [upds, upds_out ds' ds _ _ (by simpa using ok.1.2), List.getElem?_set_self hi]
      rfl
    · rw [List.any_cons] at h
      have h2 : ds.any (isB i) = true := by
        have : isB i (.bor k) = false := by simp [isB, e]
        rw [this, Bool.false_or] at h; exact h
      obtain ⟨m, e1, e2, e3⟩ := upds_in ds' ds (j + 1) (st.set k ((ds'[j]?).getD .gone)) ok.2 (by rw [List.length_set]; exact hi) h2
      exact ⟨m + 1, e1, by rw [show j + (m + 1) = j + 1 + m by omega]; exact e2, by rw [show j + (m + 1) = j + 1 + m by omega]; exact e3⟩
  | .fr _ :: ds, j, st, ok, hi, h => by
    obtain ⟨m, e1, e2, e3⟩ := upds_in ds' ds (j + 1) st ok hi (by simpa [isB] using h)
    exact ⟨m + 1, e1, by rw [show j + (m + 1) = j + 1 + m by omega]; exact e2, by rw [show j + (m + 1) = j + 1 + m by omega]; exact e3⟩
  | .ow _ :: ds, j, st, ok, hi, h => by
    obtain ⟨m, e1, e2, e3⟩ := upds_in ds' ds (j + 1) st ok hi (by simpa [isB] using h)
    exact ⟨m + 1, e1, by rw [show j + (m + 1) = j + 1 + m by omega]; exact e2, by rw [show j + (m + 1) = j + 1 + m by omega]; exact e3⟩
  | .dk _ :: ds, j, st, ok, hi, h => by
    obtain ⟨m, e1, e2, e3⟩ := upds_in ds' ds (j + 1) st ok hi (by simpa [isB] using h)
    exact ⟨m + 1, e1, by rw [show j + (m + 1) = j + 1 + m by omega]; exact e2, by rw [show j + (m + 1) = j + 1 + m by omega]; exact e3⟩
  | .cst _ :: ds, j, st, ok, hi, h => by
    obtain ⟨m, e1, e2, e3⟩ := upds_in ds' ds (j + 1) st ok hi (by simpa [isB] using h)
    exact ⟨m + 1, e1, by rw [show j + (m + 1) = j + 1 + m by omega]; exact e2, by rw [show j + (m + 1) = j + 1 + m by omega]; exact e3⟩
  | .scr _ :: ds, j, st, ok, hi, h => by
    obtain ⟨m, e1, e2, e3⟩ := upds_in ds' ds (j + 1) st ok hi (by simpa [isB] using h)
    exact ⟨m + 1, e1, by rw [show j + (m + 1) = j + 1 + m by omega]; exact e2, by rw [show j + (m + 1) = j + 1 + m by omega]; exact e3⟩
  | .exn _ :: ds, j, st, ok, hi, h => by
    obtain ⟨m, e1, e2, e3⟩ := upds_in ds' ds (j + 1) st ok hi (by simpa [isB] using h)
    exact ⟨m + 1, e1, by rw [show j + (m + 1) = j + 1 + m by omega]; exact e2, by rw [show j + (m + 1) = j + 1 + m by omega]; exact e3⟩
  | .un _ :: ds, j, st, ok, hi, h => by
    obtain ⟨m, e1, e2, e3⟩ := upds_in ds' ds (j + 1) st ok hi (by simpa [isB] using h)
    exact ⟨m + 1, e1, by rw [show j + (m + 1) = j + 1 + m by omega]; exact e2, by rw [show j + (m + 1) = j + 1 + m by omega]; exact e3⟩
  | .gone :: ds, j, st, ok, hi, h => by
    obtain ⟨m, e1, e2, e3⟩ := upds_in ds' ds (j + 1) st ok hi (by simpa [isB] using h)
    exact ⟨m + 1, e1, by rw [show j + (m + 1) = j + 1 + m by omega]; exact e2, by rw [show j + (m + 1) = j + 1 + m by omega]; exact e3⟩

section
variable {K : PySem.W.Frag} {B : Ba} {lv : List (Nat × V)} {st tm : List Vl} {σ : L2.St} {tv : List V} {H H' : Hp} {F F' : Addr → Prop} {O O' : Addr → Option Ow} {v : V} {d : Vl} {a p : Addr}
/-- the j-th of the temps that were laid last -/
theorem RelX.argAt : ∀ {ds : List Vl} {vs : List V} {tm : List Vl} {tv : List V} {j : Nat} {d : Vl} {v : V}, vs.length = ds.length → RelX K B lv st (ds.reverse ++ tm) σ (vs.reverse ++ tv) H F O → ds[j]? = some d → vs[j]? = some v →
    (∃ i, d = .bor i ∧ σ[i]? = some (some v)) ∨ VR K F O H (.inr (tm.length + j)) v d
  | [], [], _, _, _, _, _, _, _, e, _ => by simp at e
  | x :: ds, u :: vs, tm, tv, j, d, v, hl, R, e1, e2 => by
    rw [List.reverse_cons, List.reverse_cons, List.append_assoc, List.append_assoc] at R
    cases j with
    | zero =>
      simp at e1 e2
      subst e1 e2
      have : ∀ {ds : List Vl} {vs : List V} {tm : List Vl} {tv : List V}, vs.length = ds.length → RelX K B lv st (ds ++ tm) σ (vs ++ tv) H F O → RelX K B lv st tm σ tv H F O := by
        intro ds
        induction ds with
        | nil => intro vs tm tv h R; cases vs with
          | nil => exact R
          | cons _ _ => cases h
        | cons y ds ih => intro vs tm tv h R; cases vs with
          | nil => cases h
          | cons z vs => exact ih (Nat.succ.inj h) R.pop
      have R' : RelX K B lv st (x :: tm) σ (u :: tv) H F O := this (by simp only [List.length_reverse]; exact Nat.succ.inj hl) R
      exact R'.tp.1
    | succ j =>
      have := RelX.argAt (j := j) (Nat.succ.inj hl) R (by simpa using e1) (by simpa using e2)
      rw [List.length_append, List.length_singleton] at this
      rw [show tm.length + (j + 1) = 1 + tm.length + j by omega]
      exact this
  | [], _ :: _, _, _, _, _, _, h, _, _, _ => by cases h
  | _ :: _, [], _, _, _, _, _, h, _, _, _ => by cases h
theorem RelX.popAll {ds : List Vl} : ∀ {vs : List V}, vs.length = ds.length → RelX K B lv st (ds ++ tm) σ (vs ++ tv) H F O → RelX K B lv st tm σ tv H F O := by
  induction ds with
  | nil => intro vs h R; cases vs with
    | nil => exact R
    | cons _ _ => cases h
  | cons y ds ih => intro vs h R; cases vs with
    | nil => cases h
    | cons z vs => exact ih (Nat.succ.inj h) R.pop
/-- which argument owns an address -/
def argO (ds : List Vl) (n : Nat) (O : Addr → Option Ow) : Addr → Option Nat := fun a => match O a with
  | some (.inr m) => if n ≤ m ∧ m < n + ds.length then some (m - n) else none
  | some (.inl i) => if ds.any (isB i) = true then ds.findIdx? (isB i) else none
  | none => none
theorem argO_some {ds : List Vl} {n i : Nat} (h : argO ds n O a = some i) : ∃ w, O a = some w := by
  unfold argO at h
  cases e : O a with
  | none => rw [e] at h; cases h
  | some w => exact ⟨w, rfl⟩
theorem okB_first {lk : List Nat} {i : Nat} : ∀ {ds : List Vl} {j m : Nat}, okB lk j ds = true → ds[m]? = some (.bor i) → ds.findIdx? (isB i) = some m
  | [], _, _, _, e => by simp at e
  | d :: ds, j, 0, ok, e => by
    simp at e; subst e
    rw [List.findIdx?_cons, show isB i (.bor i) = true by simp [isB]]
    rfl
  | d :: ds, j, m + 1, ok, e => by
    have e' : ds[m]? = some (.bor i) := by simpa using e
    have hin : ds.any (isB i) = true := List.any_eq_true.mpr ⟨_, List.mem_of_getElem? e', by simp [isB]⟩
    have hd : isB i d = false := by
      cases d with
      | bor k =>
        rw [okB, Bool.and_eq_true, Bool.and_eq_true] at ok
        by_cases q : i = k
        · subst q
          have := ok.1.2
          rw [hin] at this
          cases this
        · simp [isB, q]
      | _ => rfl
    have ok' : okB lk (j + 1) ds = true := by
      cases d with
      | bor k => rw [okB, Bool.and_eq_true] at ok; exact ok.2
      | _ => exact ok
    rw [List.findIdx?_cons, hd, okB_first ok' e']
    rfl
theorem RelX.pre {ds : List Vl} {vs : List V} {lk : List Nat} (hl : vs.length = ds.length) (R : RelX K B lv st (ds.reverse ++ tm) σ (vs.reverse ++ tv) H F O) (ok : okB lk 0 ds = true) : Pre K B.T F (argO ds tm.length O) (ds.map (res st)) vs H where
  len := by rw [List.length_map]; exact hl.symm
  av := fun i d v e1 e2 => by
    rw [List.getElem?_map] at e1
    cases e : ds[i]? with
    | none => rw [e] at e1; cases e1
    | some x =>
      rw [e] at e1
      have hd : res st x = d := Option.some.inj e1
      have hi : i < ds.length := (List.getElem?_eq_some_iff.mp e).1
      have kp : Kp F H H := fun _ _ e _ _ => e
      rcases R.argAt hl e e2 with ⟨j, ej, h1⟩ | h
      · subst ej
        have hd' : (st[j]?).getD .gone = d := hd
        cases q : st[j]? with
        | none => rw [q] at hd'; exact .inl hd'.symm
        | some y =>
          rw [q] at hd'
          have hy : y = d := hd'
          subst hy
          rcases R.sl j y q with z | ⟨u, h2, h3⟩
          · exact .inl z
          · rw [h1] at h2; cases h2
            refine .inr (h3.keep (fun _ f => f) kp (fun a z => ?_) (fun _ _ _ _ z => z))
            have hin : ds.any (isB j) = true := List.any_eq_true.mpr ⟨_, List.mem_of_getElem? e, by simp [isB]⟩
            show (argO ds tm.length O a).map Sum.inl = _
            unfold argO
            rw [z]
            simp only [hin, if_true, okB_first ok e]
            rfl
      · have hx : res st x = x := by
          cases x with
          | bor _ => exact h.elim
          | _ => rfl
        rw [hx] at hd
        subst hd
        refine .inr (h.keep (fun _ f => f) kp (fun a z => ?_) (fun _ _ _ _ z => z))
        show (argO ds tm.length O a).map Sum.inl = _
        unfold argO
        rw [z]
        simp only
        rw [if_pos ⟨by omega, by omega⟩]
        show some (Sum.inl (tm.length + i - tm.length)) = _
        rw [Nat.add_sub_cancel_left]
  fo := fun a f => by unfold argO; rw [R.fo a f]
  fh := R.fh
  oh := fun a i h => by
    obtain ⟨w, e⟩ := argO_some h
    exact R.oh a w e
  tb := R.fr.tb
/-- behind a call -/
theorem RelX.post {ds ds' : List Vl} {vs : List V} {lk : List Nat} (hl : vs.length = ds.length) (R : RelX K B lv st (ds.reverse ++ tm) σ (vs.reverse ++ tv) H F O) (ok : okB lk 0 ds = true) (q : Post K B.T F (argO ds tm.length O) vs H lk ds' H' F' O') :
    RelX K B lv (upds ds' 0 ds st) tm σ tv H' F' (fun a => match O' a with
      | some (.inr _) => some (.inr tm.length)
      | some (.inl j) => (match ds[j]? with | some (.bor i) => some (.inl i) | _ => some (.inr tm.length))
      | none => if argO ds tm.length O a = none then O a else none) := by
  have Rp := R.popAll (by simp only [List.length_reverse]; exact hl)
  have kp : Kp F H H' := fun a o e nt h => by
    refine q.fr.ke a o e (fun y => ?_) (.inl nt)
    refine y ?_
    rcases h with f | s
    · unfold argO; rw [R.fo a f]
    · cases z : argO ds tm.length O a with
      | none => rfl
      | some i =>
        obtain ⟨w, ew⟩ := argO_some z
        obtain ⟨o', e', n⟩ := R.oh a w ew
        rw [e] at e'; cases e'
        exact absurd s n
  -- an address that no argument owns: its owner stays
  have stay : ∀ a w, O a = some w → argO ds tm.length O a = none → (match O' a with
      | some (.inr _) => some (Sum.inr tm.length)
      | some (.inl j) => (match ds[j]? with | some (.bor i) => some (Sum.inl i) | _ => some (Sum.inr tm.length))
      | none => if argO ds tm.length O a = none then O a else none) = some w := fun a w e n => by
    have h : O' a = none := by
      cases z : O' a with
      | none => rfl
      | some w' =>
        rcases q.mi a w' z with y | y
        · exact absurd n y
        · exact (Rp.oh' e y).elim
    rw [h]
    simp only
    rw [if_pos n, e]
  have slotN : ∀ i a, ds.any (isB i) = false → O a = some (.inl i) → argO ds tm.length O a = none := fun i a h e => by
    unfold argO
    rw [e]
    simp only
    rw [if_neg (by rw [h]; exact Bool.false_ne_true)]
  have tempN : ∀ n a, n < tm.length → O a = some (.inr n) → argO ds tm.length O a = none := fun n a h e => by
    unfold argO
    rw [e]
    simp only
    rw [if_neg (by omega)]
  have arg0 : ∀ a, ¬ B.A0 a → (∃ o, B.H0 a = some o) → argO ds tm.length O a = none := fun a n ⟨o, e⟩ => by
    cases z : argO ds tm.length O a with
    | none => rfl
    | some i =>
      obtain ⟨w, ew⟩ := argO_some z
      rcases R.mi a w ew with y | y
      · exact absurd y n
      · rw [e] at y; cases y
  have frc : Fr B.T B.H0 B.A0 H' := ⟨fun a o e n t => q.fr.ke a o (R.fr.ke a o e n t) (fun y => y (arg0 a n ⟨o, e⟩)) t, fun a ps e n => by
    obtain ⟨qs, z⟩ := R.fr.kt a ps e n
    exact q.fr.kt a qs z fun y => y (arg0 a n ⟨_, e⟩), q.fr.tb⟩
  refine ⟨by rw [upds_len]; exact R.len, fun i d e => ?_, Rp.tp.keep q.f0 kp σ (fun a n hn e => stay a _ e (tempN n a hn e)) (fun a o n hn e nt z => q.fr.ke a o z (fun y => y (tempN n a hn e)) (.inl nt)) (fun _ _ _ h => h), fun a f => ?_, fun a w e => ?_, q.fh, frc, fun a w e => ?_, fun a f => q.f0 a (R.f0 a f), fun a f => ?_, R.lk⟩
  · by_cases hb : ds.any (isB i) = true
    · have hi : i < st.length := by
        by_cases z : i < st.length
        · exact z
        · rw [List.getElem?_eq_none (by rw [upds_len]; exact Nat.not_lt.mp z)] at e; cases e
      obtain ⟨m, e1, e2, e3⟩ := upds_in ds' ds 0 st ok hi hb
      rw [Nat.zero_add] at e2 e3
      rw [e3] at e
      cases e
      cases z : ds'[m]? with
      | none => exact .inl rfl
      | some d =>
        have hm : m < ds.length := (List.getElem?_eq_some_iff.mp e1).1
        obtain ⟨u, hu⟩ : ∃ u, vs[m]? = some u := ⟨_, List.getElem?_eq_getElem (by omega)⟩
        rcases q.av m e2 d u z hu with y | y
        · exact .inl y
        · rcases R.argAt hl e1 hu with ⟨j, ej, h1⟩ | h
          · cases ej
            refine .inr ⟨u, h1, y.keep (fun _ f => f) (fun _ _ e _ _ => e) (fun a ea => ?_) (fun _ _ _ _ e => e)⟩
            rw [ea]
            simp only [e1]
          · exact h.elim
    · have hb' : ds.any (isB i) = false := by simpa using hb
      rw [upds_out ds' ds 0 st hb'] at e
      rcases R.sl i d e with z | ⟨u, h1, h2⟩
      · exact .inl z
      · exact .inr ⟨u, h1, h2.keep q.f0 kp (fun a ea => stay a _ ea (slotN i a hb' ea)) (fun a o ea nt z => q.fr.ke a o z (fun y => y (slotN i a hb' ea)) (.inl nt))⟩
  · rw [q.fo a f]
    simp only
    by_cases n : argO ds tm.length O a = none
    · rw [if_pos n]
      rcases q.f1 a f with z | z | z
      · exact R.fo a z
      · cases y : O a with
        | none => rfl
        | some w => exact (R.oh' y z).elim
      · exact absurd n z
    · rw [if_neg n]
  · cases z : O' a with
    | some w' => exact q.oh a w' z
    | none =>
      rw [z] at e
      simp only at e
      by_cases n : argO ds tm.length O a = none
      · rw [if_pos n] at e
        obtain ⟨o, e1, e2⟩ := R.oh a w e
        by_cases t : NT o
        · exact ⟨o, q.fr.ke a o e1 (fun y => y n) (.inl t), e2⟩
        · obtain ⟨ps, ep⟩ := Classical.not_forall.mp t
          rw [Classical.not_not.mp ep] at e1
          obtain ⟨qs, z2⟩ := q.fr.kt a ps e1 (fun y => y n)
          exact ⟨_, z2, fun y => y⟩
      · rw [if_neg n] at e; cases e
  · have fin : argO ds tm.length O a ≠ none ∨ H a = none → B.A0 a ∨ B.H0 a = none := fun h => by
      rcases h with h | h
      · cases z : argO ds tm.length O a with
        | none => exact absurd z h
        | some i =>
          obtain ⟨w', ew⟩ := argO_some z
          exact R.mi a w' ew
      · by_cases y : B.A0 a
        · exact .inl y
        · cases z : B.H0 a with
          | none => exact .inr rfl
          | some o => exact absurd h (R.fr.ne z y)
    cases z : O' a with
    | some w' => exact fin (q.mi a w' z)
    | none =>
      rw [z] at e
      simp only at e
      by_cases n : argO ds tm.length O a = none
      · rw [if_pos n] at e; exact R.mi a w e
      · rw [if_neg n] at e; cases e
  · rcases q.f1 a f with z | z | z
    · exact R.f1 a z
    · by_cases y : B.A0 a
      · exact .inr (.inr y)
      · cases x : B.H0 a with
        | none => exact .inr (.inl rfl)
        | some o => exact absurd z (R.fr.ne x y)
    · cases y : argO ds tm.length O a with
      | none => exact absurd y z
      | some i =>
        obtain ⟨w', ew⟩ := argO_some y
        rcases R.mi a w' ew with x | x
        · exact .inr (.inr x)
        · exact .inr (.inl x)
end

/-- f(e, ..): S over the arguments (what aliases stand for), the slots behind -/
def cCall (lk : List Nat) (S : VSp) (t : DTA) : DT := fun st Q => t st fun ds st1 => okB lk 0 ds = true ∧ S (ds.map (res st1)) (fun r ds' => Q r (upds ds' 0 ds st1)) (fun _ _ => False)
section
variable {X : Cx} {B : Ba} {lk lk' : List Nat} {e : Expr} {es : List Expr} {t : DTA} {p pos : Pos} {x : Str} {j k n : Nat} {S : VSp}
theorem call_weak {ps : List Str} {f : Addr} {fd : FuncData} {CX : CXT} (F : FnG X.prog X.w X.K X.mg X.base CX k f fd ps (spV B.T X.K X.mg lk' n S)) (h0 : ∀ ds Q E, S ds Q E → ds.length = n) {σ : L2.St} {H : Hp} {Q : VK} (h : LE X.K B lk (cCall lk' S t) σ H Q) :
    tCallG (spV B.T X.K X.mg lk' n S) E0 (LA X.K B lk t) σ H Q := by
  obtain ⟨lv, st, tm, tv, Q0, L, R, h, k⟩ := h
  refine ⟨lv, st, tm, tv, _, L, R, h, fun ds st1 vs H1 q hl R1 => ?_⟩
  obtain ⟨ok, hS⟩ := q
  obtain ⟨F, O, R1⟩ := R1
  refine ⟨by rw [hl, ← List.length_map (f := res st1)]; exact h0 _ _ _ hS, F, argO ds tm.length O, ds.map (res st1), _, fun _ _ => False, R1.pre hl ok, hS, fun r ds' v H' F' O' q1 P r1 => ?_, fun _ _ _ _ _ _ _ z => z.elim⟩
  exact k _ _ _ _ q1 ⟨F', _, (R1.post hl ok P).push (r1.keep (fun _ f => f) (fun _ _ e _ _ => e) (fun a ea => by rw [ea]) (fun _ _ _ _ e => e))⟩
theorem de_call (c : Def B.T X.prog X.w X.K X.mg X.base CX0 k x lk' n S) (h0 : ∀ ds Q E, S ds Q E → ds.length = n) (hr : Room j X.A) (hgd : X.A.guards = some []) (hk : k ≤ j) (hg : Gl X x) (ha : DA X B lk (e :: es) t)
    (hdb : (x == ("__debug__" : Str)) = false := by decide) (he : starEach (e :: es) X.env = (false, eval e X.env) :: starEach es X.env := by rfl) (hpl : (backTo pos (starEach es X.env)).any (·.1) = false := by rfl) :
    DE X B lk (.Call (.Name x p) (e :: es) [] pos) (cCall lk' S t) := by
  obtain ⟨f, fd, ps, hm, F, b, kp⟩ := c.ex
  exact PE.weak (pe_callG F (hr.mono hk) hgd hg hm kp b pass0 ha hdb he hpl) fun _ _ _ h => call_weak F h0 h
end
end DL

/-! The data layer, part 5: statements, loops, comprehensions, a def's body. -/
namespace DL
open PySem PySem.Spec PyProof.Rows L2

structure DEnds where
  nx : List Vl → Prop
  rt : Vl → List Vl → Prop
  bk : List Vl → Prop := fun _ => False
  ct : List Vl → Prop := fun _ => False
abbrev DTS := DEnds → List Vl → Prop
/-- no temp is an alias but of a locked slot -/
def Bl (tm : List Vl) (lk : List Nat) : Prop := ∀ i, Vl.bor i ∈ tm → i ∈ lk
structure EndsOk (K : PySem.W.Frag) (B : Ba) (lv : List (Nat × V)) (tm : List Vl) (tv : List V) (D0 : DEnds) (D : Ends) : Prop where
  nx : ∀ st' σ' H', D0.nx st' → Rel K B lv st' tm σ' tv H' → D.nx σ' H'
  rt : ∀ d st' v σ' H', D0.rt d st' → Rel K B lv st' (d :: tm) σ' (v :: tv) H' → D.rt v H'
  bk : ∀ st' σ' H', D0.bk st' → Rel K B lv st' tm σ' tv H' → D.bk σ' H'
  ct : ∀ st' σ' H', D0.ct st' → Rel K B lv st' tm σ' tv H' → D.ct σ' H'
def LS (K : PySem.W.Frag) (B : Ba) (lk : List Nat) (t : DTS) : TS := fun D σ H => ∃ lv st tm tv D0, Lk B lv lk ∧ Bl tm lk ∧ Rel K B lv st tm σ tv H ∧ t D0 st ∧ EndsOk K B lv tm tv D0 D
abbrev DS (X : Cx) (B : Ba) (lk : List Nat) (s : Stmt) (t : DTS) : Prop := PS X s (LS X.K B lk t)
abbrev DSs (X : Cx) (B : Ba) (lk : List Nat) (s : List Stmt) (t : DTS) : Prop := PSs X s (LS X.K B lk t)

section
variable {X : Cx} {B : Ba} {lk : List Nat} {a b e : Expr} {s : Stmt} {rest : List Stmt} {ta tb te : DT} {t u : DTS} {pos : Pos}
def cNext : DTS := fun D st => D.nx st
def cSeq (t u : DTS) : DTS := fun D st => t { D with nx := u D } st
theorem dss_nil : DSs X B lk [] cNext := PSs.weak pss_nil fun D σ H ⟨lv, st, tm, tv, D0, L, Bt, R, h, k⟩ => k.nx _ _ _ h R
theorem dss_cons (h1 : DS X B lk s t) (h2 : DSs X B lk rest u) : DSs X B lk (s :: rest) (cSeq t u) := PSs.weak (pss_cons h1 h2) fun D σ H ⟨lv, st, tm, tv, D0, L, Bt, R, h, k⟩ =>
  ⟨lv, st, tm, tv, _, L, Bt, R, h, ⟨fun st' σ' H' q R' => ⟨lv, st', tm, tv, D0, L, Bt, R', q, k⟩, k.rt, k.bk, k.ct⟩⟩
theorem dss_one (h1 : DS X B lk s t) : DSs X B lk [s] t := pss_one h1
def cDrop (te : DT) : DTS := fun D st => te st fun _ st' => D.nx st'
theorem ds_expr (he : DE X B lk e te) (hs : swapsWith e none pos.line X.env = pure false := by rfl) : DS X B lk (.Expr e pos) (cDrop te) := PS.weak (ps_expr he hs) fun D σ H ⟨lv, st, tm, tv, D0, L, Bt, R, h, k⟩ =>
  ⟨lv, st, tm, tv, _, L, R, h, fun d st' v H' q R' => k.nx _ _ _ q R'.pop⟩
/-- what a def hands back is no alias -/
def cRet (te : DT) : DTS := fun D st => te st fun d st' => (∀ i, d ≠ .bor i) ∧ D.rt d st'
theorem ds_ret (he : DE X B lk e te) : DS X B lk (.Return (some e) pos) (cRet te) := PS.weak (ps_ret he) fun D σ H ⟨lv, st, tm, tv, D0, L, Bt, R, h, k⟩ =>
  ⟨lv, st, tm, tv, _, L, R, h, fun d st' v H' q R' => k.rt _ _ _ _ _ q.2 R'⟩
def cIfS (c : DTT) (t u : DTS) : DTS := fun D st => c st fun b st1 => if b = true then t D st1 else u D st1
theorem ds_if {c : Expr} {as bs : List Stmt} {tc : DTT} (hc : DC X B lk c tc) (ha : DSs X B lk as t) (hb : DSs X B lk bs u) : DS X B lk (.If c as bs pos) (cIfS tc t u) := PS.weak (ps_if hc ha hb) fun D σ H ⟨lv, st, tm, tv, D0, L, Bt, R, h, k⟩ => by
  refine ⟨lv, st, tm, tv, _, L, R, h, fun c st' H' q R' => ?_⟩
  cases c with
  | true => rw [if_pos rfl] at q ⊢; exact ⟨lv, st', tm, tv, D0, L, Bt, R', q, k⟩
  | false => rw [if_neg Bool.false_ne_true] at q ⊢; exact ⟨lv, st', tm, tv, D0, L, Bt, R', q, k⟩

/-! ### targets -/
abbrev DTG := Vl → List Vl → (List Vl → Prop) → Prop
abbrev DTGs := List PyData → List Vl → (List Vl → Prop) → Prop
/-- only the slots ws are others -/
def Fs (ws : List Nat) (σ σ' : L2.St) : Prop := σ'.length = σ.length ∧ ∀ i, i ∉ ws → σ'[i]? = σ[i]?
def LG (K : PySem.W.Frag) (B : Ba) (lk ws : List Nat) (g : DTG) : TG := fun v σ H Q => ∃ lv st d tm tv Q0, Lk B lv lk ∧ Bl tm lk ∧ Rel K B lv st (d :: tm) σ (v :: tv) H ∧ g d st Q0 ∧ ∀ st' σ' H', Q0 st' → Fs ws σ σ' → Rel K B lv st' tm σ' tv H' → Q σ' H'
def LGs (K : PySem.W.Frag) (B : Ba) (lk ws : List Nat) (g : DTGs) : TGs := fun vs σ H Q => ∃ lv st ds tm tv Q0, Lk B lv lk ∧ Bl tm lk ∧ vs.length = ds.length ∧ Rel K B lv st (ds.map Vl.fr ++ tm) σ (vs ++ tv) H ∧ g ds st Q0 ∧ ∀ st' σ' H', Q0 st' → Fs ws σ σ' → Rel K B lv st' tm σ' tv H' → Q σ' H'
abbrev DG (X : Cx) (B : Ba) (lk ws : List Nat) (e : Expr) (g : DTG) : Prop := PG X e (LG X.K B lk ws g)
abbrev DGs (X : Cx) (B : Ba) (lk ws : List Nat) (es : List Expr) (g : DTGs) : Prop := PGs X es (LGs X.K B lk ws g)
/-- a name; what comes is no alias -/
def gNm (i : Nat) : DTG := fun d st Q => (∀ j, d ≠ .bor j) ∧ i < st.length ∧ Q (st.set i d)
theorem PGs.weak {X : Cx} {e : List Expr} {t t' : TGs} (h : PGs X e t) (i : ∀ v σ H Q, t' v σ H Q → t v σ H Q) : PGs X e t' := ⟨fun pins s σ H v u Q I r q => h.run pins s σ H v u Q I r (i v σ H Q q)⟩
theorem dg_name (i : Nat) {x : Str} (hN : X.N.Nodup) (hl : lk.contains i = false) (hi : X.N[i]? = some x) (hx : Loc X.env.scope x) (hf : X.fn x = true ∨ X.env.scope.names.lookup x = some .local := by first | exact .inl rfl | exact .inr rfl | assumption) : DG X B lk [i] (.Name x pos) (gNm i) :=
  PG.weak (pg_name hN hi hx hf) fun v σ H Q ⟨lv, st, d, tm, tv, Q0, L, Bt, R, h, k⟩ =>
    have hn : i ∉ lk := fun z => by rw [List.contains_iff_mem.mpr z] at hl; cases hl
    k _ _ _ h.2.2 ⟨List.length_set .., fun j hj => List.getElem?_set_ne (fun e => hj (by rw [e]; exact List.mem_singleton.mpr rfl))⟩ (R.store h.1 h.2.1 (fun z => hn (Bt i z)) (fun p hp z => hn (z ▸ L.1 p hp)))
def gsNil : DTGs := fun ds st Q => ds = [] ∧ Q st
def gsCons (g : DTG) (gs : DTGs) : DTGs := fun ds st Q => match ds with
  | d :: ds => g (.fr d) st fun st' => gs ds st' Q
  | [] => False
theorem dgs_nil : DGs X B lk [] [] gsNil := PGs.weak pgs_nil fun vs σ H Q ⟨lv, st, ds, tm, tv, Q0, L, Bt, hl, R, h, k⟩ => by
  obtain ⟨rfl, h⟩ := h
  cases vs with
  | nil => exact ⟨rfl, k _ _ _ h ⟨rfl, fun _ _ => rfl⟩ R⟩
  | cons _ _ => cases hl
theorem dgs_cons {w1 w2 : List Nat} {e : Expr} {es : List Expr} {g : DTG} {gs : DTGs} (h1 : DG X B lk w1 e g) (h2 : DGs X B lk w2 es gs) (hs : (assignEach (e :: es) X.env).map (·.2) = assign e X.env :: (assignEach es X.env).map (·.2) := by rfl) : DGs X B lk (w1 ++ w2) (e :: es) (gsCons g gs) :=
  PGs.weak (pgs_cons h1 h2 hs) fun vs σ H Q ⟨lv, st, ds, tm, tv, Q0, L, Bt, hl, R, h, k⟩ => by
    cases ds with
    | nil => exact h.elim
    | cons d ds =>
      cases vs with
      | nil => cases hl
      | cons v vs =>
        refine ⟨v, vs, rfl, lv, st, .fr d, ds.map Vl.fr ++ tm, vs ++ tv, _, L, fun i hi => ?_, R, h, fun st' σ' H' q f1 R' => ⟨lv, st', ds, tm, tv, Q0, L, Bt, Nat.succ.inj hl, R', q, fun st2 σ2 H2 q2 f2 R2 => k _ _ _ q2 ⟨f2.1.trans f1.1, fun j hj => (f2.2 j (fun z => hj (List.mem_append_right _ z))).trans (f1.2 j (fun z => hj (List.mem_append_left _ z)))⟩ R2⟩⟩
        rcases List.mem_append.mp hi with z | z
        · obtain ⟨y, _, e⟩ := List.mem_map.mp z; cases e
        · exact Bt i z
/-- (a, b, ..): a frozen tuple is unpacked -/
def gTu (n : Nat) (gs : DTGs) : DTG := fun d st Q => match d with
  | .fr (.tuple ds) => ds.length = n ∧ gs ds st Q
  | _ => False
theorem RelX.spread {K : PySem.W.Frag} {B : Ba} {lv : List (Nat × V)} {st tm : List Vl} {σ : L2.St} {tv : List V} {H : Hp} {F : Addr → Prop} {O : Addr → Option Ow} : ∀ {vs : List V} {ds : List PyData}, RpA K F H vs ds → RelX K B lv st tm σ tv H F O → RelX K B lv st (ds.map Vl.fr ++ tm) σ (vs ++ tv) H F O
  | _, _, .nil, R => R
  | _, _, .cons r q, R => (RelX.spread q R).push (d := .fr _) r
theorem dg_tup {ws : List Nat} {es : List Expr} {k : Nat} {gs : DTGs} {n : Nat} (hc : X.calm = true) (h : DGs X B lk ws es gs) (hn : (assignEach es X.env).length = n := by rfl) (hst : (assignEach es X.env).findIdx? (·.1) = none := by rfl) : DG X B lk ws (.Tuple es k pos) (gTu n gs) :=
  PG.weak (pg_tup hc h hn hst) fun v σ H Q ⟨lv, st, d, tm, tv, Q0, L, Bt, R, h, k⟩ => by
    unfold gTu at h
    split at h
    · rename_i ds
      obtain ⟨F, O, R⟩ := R
      obtain ⟨a, vs, rfl, h1, r⟩ := R.tup (ds := ds) rfl
      exact ⟨a, vs, rfl, h1, by rw [r.length]; exact h.1, lv, st, ds, tm, tv, Q0, L, Bt, r.length, ⟨F, O, RelX.spread r R.pop⟩, h.2, k⟩
    · exact h.elim
/-- target = e -/
def cAsg (te : DT) (g : DTG) : DTS := fun D st => te st fun d st' => g d st' D.nx
theorem asg_weak {ws : List Nat} {g : DTG} {D : Ends} {σ : L2.St} {H : Hp} (h : LS X.K B lk (cAsg te g) D σ H) : tAsg (LE X.K B lk te) (LG X.K B lk ws g) D σ H := by
  obtain ⟨lv, st, tm, tv, D0, L, Bt, R, h, k⟩ := h
  exact ⟨lv, st, tm, tv, _, L, R, h, fun d st' v H' q R' => ⟨lv, st', d, tm, tv, _, L, Bt, R', q, fun st2 σ2 H2 q2 _ R2 => k.nx _ _ _ q2 R2⟩⟩
theorem ds_asg {ws : List Nat} {tg : Expr} {g : DTG} (he : DE X B lk e te) (hg : DG X B lk ws tg g) (hs : swapsWithSole [tg] e pos.line X.env = pure false := by rfl) (hw : swappedStores [tg] e X.env = pure none := by rfl)
    (h1 : (assignEach [tg] X.env).map (·.2) = [assign tg X.env] := by rfl) : DS X B lk (.Assign [tg] e pos) (cAsg te g) := PS.weak (ps_asg he hg hs hw h1) fun _ _ _ h => asg_weak h
theorem ds_set (i : Nat) {x : Str} {pos' : Pos} (hN : X.N.Nodup) (hl : lk.contains i = false) (hi : X.N[i]? = some x) (hx : Loc X.env.scope x) (he : DE X B lk e te) (hs : swapsWith e (some (.Name x pos')) pos.line X.env = pure false := by rfl)
    (hf : X.fn x = true ∨ X.env.scope.names.lookup x = some .local := by first | exact .inl rfl | exact .inr rfl | assumption) : DS X B lk (.Assign [.Name x pos'] e pos) (cAsg te (gNm i)) :=
  PS.weak (ps_set hN hi hx he hs hf) fun D σ H h => by
    obtain ⟨lv, st, tm, tv, D0, L, Bt, R, h, k⟩ := h
    have hn : i ∉ lk := fun z => by rw [List.contains_iff_mem.mpr z] at hl; cases hl
    exact ⟨lv, st, tm, tv, _, L, R, h, fun d st' v H' q R' => k.nx _ _ _ q.2.2 (R'.store q.1 q.2.1 (fun z => hn (Bt i z)) (fun p hp z => hn (z ▸ L.1 p hp)))⟩
end
end DL

/-! The data layer, part 6: what is walked; for, while, list comprehensions. -/
namespace DL
open PySem PySem.Spec PyProof.Rows L2

section
variable {K : PySem.W.Frag} {B : Ba} {lv : List (Nat × V)} {st tm : List Vl} {σ : L2.St} {tv : List V} {H H' : Hp} {F F' : Addr → Prop} {O O' : Addr → Option Ow} {v : V} {d : Vl} {a p : Addr}
theorem Rel.unlock {l : List (Nat × V)} (R : Rel K B (l ++ lv) st tm σ tv H) : Rel K B lv st tm σ tv H := by
  obtain ⟨F, O, R⟩ := R
  exact ⟨F, O, R.len, R.sl, R.tp, R.fo, R.oh, R.fh, R.fr, R.mi, R.f0, R.f1, fun p hp => R.lk p (List.mem_append_right _ hp)⟩
/-- the locks of some temps -/
def locks : List Vl → List V → List (Nat × V)
  | .bor i :: ds, v :: vs => (i, v) :: locks ds vs
  | _ :: ds, _ :: vs => locks ds vs
  | _, _ => []
theorem locks_in : ∀ {ds : List Vl} {vs : List V} {p : Nat × V}, p ∈ locks ds vs → Vl.bor p.1 ∈ ds
  | [], _, _, h => by simp [locks] at h
  | _ :: _, [], _, h => by simp [locks] at h
  | .bor i :: ds, v :: vs, p, h => by
    rw [locks] at h
    rcases List.mem_cons.mp h with e | h
    · subst e; exact List.mem_cons_self
    · exact List.mem_cons_of_mem _ (locks_in h)
  | .fr _ :: ds, v :: vs, p, h => List.mem_cons_of_mem _ (locks_in (ds := ds) (vs := vs) h)
  | .ow _ :: ds, v :: vs, p, h => List.mem_cons_of_mem _ (locks_in (ds := ds) (vs := vs) h)
  | .dk _ :: ds, v :: vs, p, h => List.mem_cons_of_mem _ (locks_in (ds := ds) (vs := vs) h)
  | .cst _ :: ds, v :: vs, p, h => List.mem_cons_of_mem _ (locks_in (ds := ds) (vs := vs) h)
  | .scr _ :: ds, v :: vs, p, h => List.mem_cons_of_mem _ (locks_in (ds := ds) (vs := vs) h)
  | .exn _ :: ds, v :: vs, p, h => List.mem_cons_of_mem _ (locks_in (ds := ds) (vs := vs) h)
  | .un _ :: ds, v :: vs, p, h => List.mem_cons_of_mem _ (locks_in (ds := ds) (vs := vs) h)
  | .gone :: ds, v :: vs, p, h => List.mem_cons_of_mem _ (locks_in (ds := ds) (vs := vs) h)
theorem Rel.lockAll {src : List Vl} {sv : List V} (R : Rel K B lv st (src ++ tm) σ (sv ++ tv) H) (hl : sv.length = src.length) : Rel K B (locks src sv ++ lv) st (src ++ tm) σ (sv ++ tv) H := by
  have key : ∀ (src : List Vl) (sv : List V), (∃ F O, TmR K F O H σ (src ++ tm) (sv ++ tv)) → sv.length = src.length → ∀ p ∈ locks src sv, σ[p.1]? = some (some p.2) := by
    intro src
    induction src with
    | nil => intro sv _ _ p hp; simp [locks] at hp
    | cons d src ih =>
      intro sv h hl p hp
      cases sv with
      | nil => cases hl
      | cons v sv =>
        obtain ⟨F, O, h1, h2⟩ := h
        have rest := ih sv ⟨F, O, h2⟩ (Nat.succ.inj hl)
        cases d with
        | bor i =>
          rw [locks] at hp
          rcases List.mem_cons.mp hp with e | hp
          · subst e
            rcases h1 with ⟨j, ej, h⟩ | h
            · cases ej; exact h
            · exact h.elim
          · exact rest p hp
        | _ => exact rest p hp
  obtain ⟨F, O, R⟩ := R
  refine ⟨F, O, R.len, R.sl, R.tp, R.fo, R.oh, R.fh, R.fr, R.mi, R.f0, R.f1, fun p hp => ?_⟩
  rcases List.mem_append.mp hp with hp | hp
  · exact key src sv ⟨F, O, R.tp⟩ hl p hp
  · exact R.lk p hp
/-- temps beneath the top one are dropped -/
theorem Rel.under {src : List Vl} {sv : List V} (hl : sv.length = src.length) (R : Rel K B lv st (d :: (src ++ tm)) σ (v :: (sv ++ tv)) H) : Rel K B lv st (d :: tm) σ (v :: tv) H := by
  obtain ⟨F, O, R⟩ := R
  have Rt : RelX K B lv st tm σ tv H F O := R.pop.popAll hl
  rcases R.tp.1 with ⟨i, e, h⟩ | h
  · exact ⟨F, O, Rt.len, Rt.sl, ⟨.inl ⟨i, e, h⟩, Rt.tp⟩, Rt.fo, Rt.oh, Rt.fh, Rt.fr, Rt.mi, Rt.f0, Rt.f1, Rt.lk⟩
  · rw [List.length_append] at h
    have kp : Kp F H H := fun _ _ e _ _ => e
    by_cases hs : src.length = 0
    · rw [hs, Nat.zero_add] at h
      exact ⟨F, O, Rt.push h⟩
    · refine ⟨F, fun a => if O a = some (.inr (src.length + tm.length)) then some (.inr tm.length) else O a, Rt.len, fun i d' e => ?_, ⟨.inr (h.keep (fun _ f => f) kp (fun a e => if_pos e) (fun _ _ _ _ e => e)), Rt.tp.keep (fun _ f => f) kp σ (fun a n hn e => ?_) (fun _ _ _ _ _ _ e => e) (fun _ _ _ e => e)⟩, fun a f => ?_, fun a w e => ?_, Rt.fh, Rt.fr, fun a w e => ?_, Rt.f0, Rt.f1, Rt.lk⟩
      · rcases Rt.sl i d' e with z | ⟨u, h1, h2⟩
        · exact .inl z
        · refine .inr ⟨u, h1, h2.keep (fun _ f => f) kp (fun a e => ?_) (fun _ _ _ _ e => e)⟩
          rw [if_neg (by rw [e]; intro z; cases z)]; exact e
      · rw [if_neg (by rw [e]; intro z; have := Sum.inr.inj (Option.some.inj z); omega)]; exact e
      · rw [R.fo a f, if_neg (by intro z; cases z)]
      · by_cases q : O a = some (.inr (src.length + tm.length))
        · exact R.oh a _ q
        · rw [if_neg q] at e; exact R.oh a w e
      · by_cases q : O a = some (.inr (src.length + tm.length))
        · exact R.mi a _ q
        · rw [if_neg q] at e; exact R.mi a w e
end

/-! ### what is walked -/
structure Wk (K : PySem.W.Frag) (B : Ba) (J : It) (items : List PyData) (src : List Vl) (sv : List V) (cond : List Vl → Prop) : Prop where
  go : ∀ lv st tm σ tv H i d, cond st → Rel K B lv st (src ++ tm) σ (sv ++ tv) H → items[i]? = some d → J.go i H ∧ ∀ x H', J.yld i H x H' → Rel K B lv st (.fr d :: (src ++ tm)) σ (x :: (sv ++ tv)) H'
  stop : ∀ lv st tm σ tv H, cond st → Rel K B lv st (src ++ tm) σ (sv ++ tv) H → J.stop items.length H
abbrev DTI := List Vl → (List PyData → List Vl → (List Vl → Prop) → List Vl → Prop) → Prop
def LI (K : PySem.W.Frag) (B : Ba) (lk : List Nat) (ti : DTI) : TI := fun σ H R => ∃ lv st tm tv Q0, Lk B lv lk ∧ Rel K B lv st tm σ tv H ∧ ti st Q0 ∧
  ∀ items src cond st' sv J H', Q0 items src cond st' → Wk K B J items src sv cond → sv.length = src.length → Rel K B lv st' (src ++ tm) σ (sv ++ tv) H' → R J H'
abbrev DI (X : Cx) (B : Ba) (lk : List Nat) (tg iter : Expr) (ti : DTI) : Prop := PI X tg iter (LI X.K B lk ti)
theorem PI.weak {X : Cx} {tg iter : Expr} {t t' : TI} (h : PI X tg iter t) (i : ∀ σ H Q, t' σ H Q → t σ H Q) : PI X tg iter t' := ⟨fun pins s σ H Q I q => h.run pins s σ H Q I (i σ H Q q)⟩

/-! ### for -/
def forGo (cond : List Vl → Prop) (g : DTG) (tb : DTS) (D : DEnds) : List PyData → List Vl → Prop
  | [], st => D.nx st
  | d :: ds, st => g (.fr d) st fun st2 => tb { D with nx := fun st3 => cond st3 ∧ forGo cond g tb D ds st3, ct := fun st3 => cond st3 ∧ forGo cond g tb D ds st3, bk := D.nx } st2
/-- lx: the slots that the loop walks (locked within) -/
def srcOk (lx : List Nat) : List Vl → Bool
  | [] => true
  | .bor i :: ds => lx.contains i && srcOk lx ds
  | .ow _ :: _ => false
  | .dk _ :: _ => false
  | .un _ :: _ => false
  | _ :: ds => srcOk lx ds
theorem srcOk_in {lx : List Nat} : ∀ {ds : List Vl} {i : Nat}, srcOk lx ds = true → Vl.bor i ∈ ds → i ∈ lx
  | [], _, _, h => by cases h
  | .bor k :: ds, i, ok, h => by
    rw [srcOk, Bool.and_eq_true] at ok
    rcases List.mem_cons.mp h with e | h
    · cases e; exact List.contains_iff_mem.mp ok.1
    · exact srcOk_in ok.2 h
  | .fr _ :: ds, i, ok, h => by rcases List.mem_cons.mp h with e | h; (cases e); exact srcOk_in (ds := ds) ok h
  | .ow _ :: ds, i, ok, h => by cases ok
  | .dk _ :: ds, i, ok, h => by cases ok
  | .un _ :: ds, i, ok, h => by cases ok
  | .cst _ :: ds, i, ok, h => by rcases List.mem_cons.mp h with e | h; (cases e); exact srcOk_in (ds := ds) ok h
  | .scr _ :: ds, i, ok, h => by rcases List.mem_cons.mp h with e | h; (cases e); exact srcOk_in (ds := ds) ok h
  | .exn _ :: ds, i, ok, h => by rcases List.mem_cons.mp h with e | h; (cases e); exact srcOk_in (ds := ds) ok h
  | .gone :: ds, i, ok, h => by rcases List.mem_cons.mp h with e | h; (cases e); exact srcOk_in (ds := ds) ok h
def cFor (lx : List Nat) (ti : DTI) (g : DTG) (tb : DTS) : DTS := fun D st => ti st fun items src cond st1 => srcOk lx src = true ∧ cond st1 ∧ forGo cond g tb D items st1
section
variable {X : Cx} {B : Ba} {lk : List Nat} {pos : Pos}
theorem ds_for (lx : List Nat) {ws : List Nat} {tg iter : Expr} {body : List Stmt} {ti : DTI} {g : DTG} {tb : DTS} (hp : PassesOwn (model X.prog X.w) X.A X.env X.xe) (hc : X.calm = true) (hi : DI X B lk tg iter ti) (hg : DG X B (lx ++ lk) ws tg g) (hb : DSs X B (lx ++ lk) body tb)
    (hs : ∀ x, foldedSetIterable iter X.env x = pure x := by intro _; rfl) : DS X B lk (.For tg iter body [] pos) (cFor lx ti g tb) :=
  PS.weak (ps_for hp hc hi hg hb hs) fun D σ H ⟨lv, st, tm, tv, D0, L, Bt, R, h, k⟩ => by
    refine ⟨lv, st, tm, tv, _, L, R, h, fun items src cond st1 sv J H1 q W hl R1 => ?_⟩
    obtain ⟨hsrc, hc0, hgo⟩ := q
    have L1 : Lk B (locks src sv ++ lv) (lx ++ lk) := ⟨fun p hp => by
      rcases List.mem_append.mp hp with hp | hp
      · exact List.mem_append_left _ (srcOk_in hsrc (locks_in hp))
      · exact List.mem_append_right _ (L.1 p hp), fun p hp => List.mem_append_right _ (L.2 p hp)⟩
    have B1 : Bl (src ++ tm) (lx ++ lk) := fun i hi => by
      rcases List.mem_append.mp hi with hi | hi
      · exact List.mem_append_left _ (srcOk_in hsrc hi)
      · exact List.mem_append_right _ (Bt i hi)
    refine ⟨fun i m σ H => m = items.length - i ∧ i ≤ items.length ∧ ∃ st, Rel X.K B (locks src sv ++ lv) st (src ++ tm) σ (sv ++ tv) H ∧ cond st ∧ forGo cond g tb D0 (items.drop i) st, ⟨items.length, by simp, Nat.zero_le _, st1, R1.lockAll hl, hc0, hgo⟩, ?_⟩
    rintro i m σ2 H2 ⟨rfl, hi, st2, R2, hc2, hgo2⟩
    by_cases hlt : i < items.length
    · have e : items[i]? = some items[i] := List.getElem?_eq_getElem hlt
      obtain ⟨go, yl⟩ := W.go _ _ _ _ _ _ i _ hc2 R2 e
      refine .inr ⟨go, fun σ H => ∃ st, Rel X.K B (locks src sv ++ lv) st (src ++ tm) σ (sv ++ tv) H ∧ cond st ∧ forGo cond g tb D0 (items.drop (i + 1)) st, fun σ' H' n => ⟨items.length - (i + 1), by omega, rfl, hlt, n⟩, fun x H' y => ?_⟩
      rw [List.drop_eq_getElem_cons hlt, forGo] at hgo2
      refine ⟨_, st2, .fr items[i], src ++ tm, sv ++ tv, _, L1, B1, yl x H' y, hgo2, fun st3 σ3 H3 q3 _ R3 => ?_⟩
      refine ⟨_, st3, src ++ tm, sv ++ tv, _, L1, B1, R3, q3, ⟨fun st4 σ4 H4 q4 R4 => ⟨st4, R4, q4.1, q4.2⟩, fun d st4 v σ4 H4 q4 R4 => k.rt d st4 v σ4 H4 q4 (Rel.under hl R4.unlock), fun st4 σ4 H4 q4 R4 => k.nx _ _ _ q4 (Rel.popAll hl.symm R4.unlock), fun st4 σ4 H4 q4 R4 => ⟨st4, R4, q4.1, q4.2⟩⟩⟩
    · have e : i = items.length := by omega
      subst e
      rw [List.drop_length, forGo] at hgo2
      exact .inl ⟨W.stop _ _ _ _ _ _ hc2 R2, k.nx _ _ _ hgo2 (Rel.popAll hl.symm R2.unlock)⟩
/-! ### while -/
end

/-! ### list comprehensions -/
/-- the slots ws forgotten -/
def wipeD (ws : List Nat) (st : List Vl) : List Vl := match ws with
  | [] => st
  | w :: ws => (wipeD ws st).set w .gone
/-- .. as they were -/
def rst (st0 : List Vl) (ws : List Nat) (st : List Vl) : List Vl := match ws with
  | [] => st
  | w :: ws => (rst st0 ws st).set w ((st0[w]?).getD .gone)
def frozen : Vl → Bool
  | .fr _ => true
  | .cst _ => true
  | .gone => true
  | _ => false
def frozenAt (st : List Vl) (ws : List Nat) : Bool := ws.all fun w => frozen ((st[w]?).getD .gone)
def lcGo (ws : List Nat) (cond : List Vl → Prop) (g : DTG) (tt : DTT) (te : DT) (Q : List PyData → List Vl → Prop) : List PyData → List PyData → List Vl → Prop
  | [], acc, st => Q acc st
  | d :: ds, acc, st => g (.fr d) st fun st2 => tt st2 fun b st3 => if b = true then te st3 fun y st4 => (match y with
      | .fr z => acc.length < sizeLine ∧ cond (wipeD ws st4) ∧ lcGo ws cond g tt te Q ds (acc ++ [z]) (wipeD ws st4)
      | _ => False) else cond (wipeD ws st3) ∧ lcGo ws cond g tt te Q ds acc (wipeD ws st3)
def cLc (lx ws : List Nat) (ti : DTI) (g : DTG) (tt : DTT) (te : DT) : DT := fun st Q => ti st fun items src cond st1 => srcOk lx src = true ∧ frozenAt st1 ws = true ∧ cond (wipeD ws st1) ∧
  lcGo ws cond g tt te (fun acc st' => Q (.ow acc) (rst st1 ws st')) items [] (wipeD ws st1)
/-- no tests -/
def cYes : DTT := fun st Q => Q true st
abbrev DTs (X : Cx) (B : Ba) (lk : List Nat) (es : List Expr) (t : DTT) : Prop := PTs X es (LT X.K B lk t)
theorem PTs.weak {X : Cx} {e : List Expr} {t t' : TT} (h : PTs X e t) (i : ∀ σ H Q, t' σ H Q → t σ H Q) : PTs X e t' := ⟨fun pins s σ H Q I q => h.run pins s σ H Q I (i σ H Q q)⟩
theorem dts_nil {X : Cx} {B : Ba} {lk : List Nat} : DTs X B lk [] cYes := PTs.weak pts_nil fun σ H Q ⟨lv, st, tm, tv, Q0, L, R, h, k⟩ => k _ _ _ h R
theorem dts_one {X : Cx} {B : Ba} {lk : List Nat} {c : Expr} {t : DTT} (h : DC X B lk c t) : DTs X B lk [c] t := pts_one h

section
variable {K : PySem.W.Frag} {B : Ba} {lv : List (Nat × V)} {st tm : List Vl} {σ : L2.St} {tv : List V} {H H' : Hp} {F F' : Addr → Prop} {O O' : Addr → Option Ow} {v : V} {d : Vl} {a p : Addr}
theorem wipeD_len (st : List Vl) : ∀ ws : List Nat, (wipeD ws st).length = st.length
  | [] => rfl
  | w :: ws => by rw [wipeD, List.length_set, wipeD_len st ws]
theorem wipeD_at {i : Nat} {d : Vl} : ∀ {ws : List Nat}, (wipeD ws st)[i]? = some d → d = .gone ∨ (st[i]? = some d ∧ i ∉ ws)
  | [], h => .inr ⟨h, by simp⟩
  | w :: ws, h => by
    rw [wipeD] at h
    by_cases e : w = i
    · subst e
      by_cases hl : w < (wipeD ws st).length
      · rw [List.getElem?_set_self hl] at h; cases h; exact .inl rfl
      · rw [List.getElem?_eq_none (by rw [List.length_set]; exact Nat.not_lt.mp hl)] at h; cases h
    · rw [List.getElem?_set_ne e] at h
      rcases wipeD_at h with z | ⟨z, y⟩
      · exact .inl z
      · exact .inr ⟨z, by simp only [List.mem_cons, not_or]; exact ⟨fun q => e q.symm, y⟩⟩
theorem wipe_wipe : ∀ (ws : List Nat) (us : List Nat), (∀ i ∈ us, i ∈ ws) → wipe (wipe σ ws) us = wipe σ ws := by
  have key : ∀ (τ : L2.St) (l : List Nat) (i : Nat), i ∈ l → i < τ.length → (wipe τ l)[i]? = some none := by
    intro τ l i
    induction l with
    | nil => intro h; cases h
    | cons w l ih =>
      intro h hi
      rw [wipe]
      by_cases e : w = i
      · subst e; rw [List.getElem?_set_self (by rw [wipe_length]; exact hi)]
      · rw [List.getElem?_set_ne e]
        rcases List.mem_cons.mp h with z | z
        · exact absurd z.symm e
        · exact ih z hi
  intro ws us
  induction us with
  | nil => intro _; rfl
  | cons u us ih =>
    intro h
    rw [wipe, ih fun i hi => h i (List.mem_cons_of_mem _ hi)]
    refine List.ext_getElem? fun i => ?_
    by_cases e : u = i
    · subst e
      by_cases hi : u < (wipe σ ws).length
      · rw [List.getElem?_set_self hi, key σ ws u (h u List.mem_cons_self) (by rw [wipe_length] at hi; exact hi)]
      · rw [List.getElem?_eq_none (by rw [List.length_set]; exact Nat.not_lt.mp hi), List.getElem?_eq_none (Nat.not_lt.mp hi)]
    · rw [List.getElem?_set_ne e]
theorem wipe_at {i : Nat} : ∀ {ws : List Nat}, i ∉ ws → (wipe σ ws)[i]? = σ[i]?
  | [], _ => rfl
  | w :: ws, h => by
    simp only [List.mem_cons, not_or] at h
    rw [wipe, List.getElem?_set_ne (fun e => h.1 e.symm)]
    exact wipe_at h.2
theorem wipe_eq {σ σ' : L2.St} {us : List Nat} : ∀ {ws : List Nat}, Fs us σ σ' → (∀ i ∈ us, i ∈ ws) → wipe σ' ws = wipe σ ws := by
  intro ws ⟨hl, hf⟩ hu
  refine List.ext_getElem? fun i => ?_
  by_cases hi : i ∈ ws
  · have key : ∀ (τ : L2.St) (l : List Nat), i ∈ l → (wipe τ l)[i]? = if i < τ.length then some none else none := by
      intro τ l
      induction l with
      | nil => intro h; cases h
      | cons w l ih =>
        intro h
        rw [wipe]
        by_cases e : w = i
        · subst e
          rw [List.getElem?_set]
          simp only [wipe_length, if_true]
        · rw [List.getElem?_set_ne e]
          rcases List.mem_cons.mp h with z | z
          · exact absurd z.symm e
          · exact ih z
    rw [key σ' ws hi, key σ ws hi, hl]
  · rw [wipe_at hi, wipe_at hi]
    exact hf i (fun z => hi (hu i z))
/-- the block's own slots forgotten, aliases among the temps too -/
def unb : Vl → Vl
  | .bor _ => .gone
  | d => d
theorem TmR.unb (σ' : L2.St) : ∀ {tm : List Vl} {tv : List V}, TmR K F O H σ tm tv → TmR K F O H σ' (tm.map DL.unb) tv
  | [], [], _ => trivial
  | d :: tm, v :: tv, ⟨h, r⟩ => by
    refine ⟨.inr ?_, TmR.unb σ' r⟩
    rw [List.length_map]
    rcases h with ⟨i, e, _⟩ | h
    · subst e; exact trivial
    · cases d with
      | bor _ => exact h.elim
      | _ => exact h
  | [], _ :: _, h => h.elim
  | _ :: _, [], h => h.elim
theorem TmR.reb {F' : Addr → Prop} {O' : Addr → Option Ow} : ∀ {tm : List Vl} {tv : List V}, TmR K F O H σ tm tv → TmR K F' O' H' σ (tm.map DL.unb) tv → TmR K F' O' H' σ tm tv
  | [], [], _, _ => trivial
  | d :: tm, v :: tv, ⟨h, r⟩, ⟨h', r'⟩ => by
    refine ⟨?_, TmR.reb r r'⟩
    rcases h with ⟨i, e, h⟩ | h
    · exact .inl ⟨i, e, h⟩
    · rw [List.length_map] at h'
      cases d with
      | bor _ => exact h.elim
      | _ =>
        rcases h' with ⟨i, e, _⟩ | h'
        · cases e
        · exact .inr h'
  | [], _ :: _, h, _ => h.elim
  | _ :: _, [], h, _ => h.elim
theorem RelX.wipe {ws : List Nat} (R : RelX K B lv st tm σ tv H F O) (hb : ∀ i, Vl.bor i ∈ tm → i ∉ ws) (hl : ∀ p ∈ lv, p.1 ∉ ws) : RelX K B lv (wipeD ws st) tm (L2.wipe σ ws) tv H F O := by
  refine ⟨by rw [wipeD_len, wipe_length]; exact R.len, fun i d e => ?_, R.tp.keep (fun _ f => f) (fun _ _ e _ _ => e) _ (fun _ _ _ e => e) (fun _ _ _ _ _ _ e => e) (fun i u hi e => by rw [wipe_at (hb i hi)]; exact e), R.fo, R.oh, R.fh, R.fr, R.mi, R.f0, R.f1, fun p hp => by rw [wipe_at (hl p hp)]; exact R.lk p hp⟩
  rcases wipeD_at e with z | ⟨z, y⟩
  · exact .inl z
  · rcases R.sl i d z with x | ⟨u, h1, h2⟩
    · exact .inl x
    · exact .inr ⟨u, by rw [wipe_at y]; exact h1, h2⟩
/-- one more item at the list that a temp owns -/
theorem RelX.appTmp {z : PyData} {y : V} {acc : List PyData} (hz : Rp K F H y z) (R : RelX K B lv st (.ow acc :: tm) σ (v :: tv) H F O) : ∃ a vs, v = .ref a ∧ H a = some (.lst vs) ∧ vs.length = acc.length ∧ Kp F H (upd H a (.lst (vs ++ [y]))) ∧ RelX K B lv st (.ow (acc ++ [z]) :: tm) σ (v :: tv) (upd H a (.lst (vs ++ [y]))) F O := by
  obtain ⟨a, vs, rfl, ho, h, r⟩ := R.top (d := .ow acc) (fun i e => by cases e)
  have kp : Kp F H (upd H a (.lst (vs ++ [y]))) := fun b x e _ hb => by
    rw [upd_ne]
    · exact e
    · rintro rfl
      rcases hb with f | s
      · rw [R.fo _ f] at ho; cases ho
      · rw [h] at e; cases e; exact s
  have R2 := R.pop
  refine ⟨a, vs, rfl, h, r.length, kp, R2.len, fun j d q => ?_, ⟨.inr ⟨a, _, rfl, ho, upd_same, (r.append (.one hz)).keep (fun _ f => f) kp⟩, R2.tp.keep (fun _ f => f) kp σ (fun b n _ e => e) (fun b x n hn e1 _ e2 => ?_) (fun _ _ _ e => e)⟩, R2.fo, fun b w e => ?_, fun b f => ?_, R2.fr.upd h (.lst _) (fun z => z) (R2.mi _ _ ho), R2.mi, R2.f0, R2.f1, R2.lk⟩
  · rcases R2.sl j d q with e | ⟨u, g1, g2⟩
    · exact .inl e
    · refine .inr ⟨u, g1, g2.keep (fun _ f => f) kp (fun b e => e) (fun b x e1 _ e2 => ?_)⟩
      rw [upd_ne]
      · exact e2
      · rintro rfl; rw [ho] at e1; cases e1
  · rw [upd_ne]
    · exact e2
    · rintro rfl; rw [ho] at e1; cases e1; exact absurd hn (Nat.lt_irrefl _)
  · by_cases q : b = a
    · subst q; rw [upd_same]; exact ⟨_, rfl, fun z => z⟩
    · rw [upd_ne q]; exact R2.oh b w e
  · by_cases q : b = a
    · subst q; rw [upd_same]; intro z; cases z
    · rw [upd_ne q]; exact R2.fh b f
/-- what is walked lies on other temps -/
theorem TmR.sink {lx : List Nat} {σ' : L2.St} (hF : ∀ a, F a → F' a) (kp : Kp F H H') {tm' : List Vl} {tv' : List V} (T : TmR K F' O' H' σ' tm' tv') : ∀ {src : List Vl} {sv : List V}, srcOk lx src = true → (∀ i v, Vl.bor i ∈ src → σ[i]? = some (some v) → σ'[i]? = some (some v)) → sv.length = src.length → TmR K F O H σ (src ++ tm) (sv ++ tv) → TmR K F' O' H' σ' (src ++ tm') (sv ++ tv')
  | [], [], _, _, _, _ => T
  | d :: src, v :: sv, ok, hb, hl, ⟨h, r⟩ => by
    have ok' : srcOk lx src = true := by
      cases d with
      | bor _ => rw [srcOk, Bool.and_eq_true] at ok; exact ok.2
      | ow _ => cases ok
      | dk _ => cases ok
      | un _ => cases ok
      | _ => exact ok
    refine ⟨?_, TmR.sink hF kp T ok' (fun i v hi => hb i v (List.mem_cons_of_mem _ hi)) (Nat.succ.inj hl) r⟩
    rcases h with ⟨i, e, h⟩ | h
    · subst e
      exact .inl ⟨i, rfl, hb i v List.mem_cons_self h⟩
    · cases d with
      | bor _ => exact h.elim
      | ow _ => cases ok
      | dk _ => cases ok
      | un _ => cases ok
      | fr x => exact .inr (Rp.keep hF kp x v h)
      | cst c => exact .inr h
      | gone => exact .inr h
      | scr ns => obtain ⟨a, e, h⟩ := h; exact .inr ⟨a, e, h.keep kp⟩
      | exn x => obtain ⟨a, e, h⟩ := h; exact .inr ⟨a, e, kp _ _ h (.ext _) (.inr trivial)⟩
  | [], _ :: _, _, _, h, _ => by cases h
  | _ :: _, [], _, _, h, _ => by cases h
theorem RelX.withTm {σ' : L2.St} {st' tm' : List Vl} {tv' : List V} (R : RelX K B lv st tm σ tv H F O) (T : TmR K F O H σ tm' tv') : RelX K B lv st tm' σ tv' H F O := ⟨R.len, R.sl, T, R.fo, R.oh, R.fh, R.fr, R.mi, R.f0, R.f1, R.lk⟩
/-- the values of the slots ws, as temps -/
theorem RelX.shelve : ∀ (ws : List Nat), RelX K B lv st tm σ tv H F O → frozenAt st ws = true → ∃ shv : List V, shv.length = ws.length ∧ RelX K B lv st ((ws.map fun w => (st[w]?).getD .gone) ++ tm) σ (shv ++ tv) H F O ∧
    ∀ (i : Nat) w d u, ws[i]? = some w → st[w]? = some d → d ≠ .gone → shv[i]? = some u → σ[w]? = some (some u)
  | [], R, _ => ⟨[], rfl, R, fun i w d u h => by simp at h⟩
  | w :: ws, R, h => by
    rw [frozenAt, List.all_cons, Bool.and_eq_true] at h
    obtain ⟨shv, e1, R1, e3⟩ := RelX.shelve ws R h.2
    have key : ∃ u, VR K F O H (.inr ((ws.map fun w => (st[w]?).getD .gone) ++ tm).length) u ((st[w]?).getD .gone) ∧ ∀ d, st[w]? = some d → d ≠ .gone → σ[w]? = some (some u) := by
      cases q : st[w]? with
      | none => exact ⟨.non, trivial, fun d z => by cases z⟩
      | some d =>
        rcases R.sl w d q with z | ⟨u, h1, h2⟩
        · subst z; exact ⟨.non, trivial, fun d z n => by cases z; exact absurd rfl n⟩
        · refine ⟨u, ?_, fun d' z _ => h1⟩
          rw [q] at h
          have hf := h.1
          cases d with
          | fr x => exact h2
          | cst c => exact h2
          | gone => exact trivial
          | _ => cases hf
    obtain ⟨u, k1, k2⟩ := key
    refine ⟨u :: shv, congrArg (· + 1) e1, R1.push k1, fun i w' d u' h1 h2 h3 h4 => ?_⟩
    cases i with
    | zero => simp at h1 h4; subst h1 h4; exact k2 d h2 h3
    | succ i => exact e3 i w' d u' (by simpa using h1) h2 h3 (by simpa using h4)
/-- .. and back -/
theorem RelX.unshelve {st0 : List Vl} {σ0 : L2.St} : ∀ (ws : List Nat) {shv : List V} {st : List Vl}, shv.length = ws.length → frozenAt st0 ws = true → (∀ (i : Nat) w d u, ws[i]? = some w → st0[w]? = some d → d ≠ .gone → shv[i]? = some u → σ0[w]? = some (some u)) →
    TmR K F O H σ ((ws.map fun w => (st0[w]?).getD .gone) ++ tm) (shv ++ tv) → RelX K B lv st [] σ0 [] H F O → RelX K B lv (rst st0 ws st) [] σ0 [] H F O
  | [], _, st, _, _, _, _, R => R
  | w :: ws, [], _, h, _, _, _, _ => by cases h
  | w :: ws, u :: shv, st, hl, hf, he, ⟨h, r⟩, R => by
    rw [frozenAt, List.all_cons, Bool.and_eq_true] at hf
    have R1 := RelX.unshelve ws (st := st) (Nat.succ.inj hl) hf.2 (fun i w' d u' h1 h2 h3 h4 => he (i + 1) w' d u' (by simpa using h1) h2 h3 (by simpa using h4)) r R
    rw [rst]
    refine R1.setSl ?_
    cases q : st0[w]? with
    | none => exact .inl rfl
    | some d =>
      by_cases hg : d = .gone
      · subst hg; exact .inl rfl
      · refine .inr ⟨u, he 0 w d u rfl q hg rfl, ?_⟩
        have hd : (st0[w]?).getD .gone = d := by rw [q]; rfl
        dsimp only at h
        rw [hd] at h
        have hf1 : frozen d = true := by rw [← hd]; exact hf.1
        show VR K F O H (.inl w) u d
        rcases h with ⟨i, e, _⟩ | h
        · rw [show d = .bor i from e] at hf1; cases hf1
        · cases d with
          | fr x => exact h
          | cst c => exact h
          | gone => exact trivial
          | _ => cases hf1
end
section
variable {X : Cx} {B : Ba} {lk : List Nat} {pos : Pos}
theorem lc_weak (lx ws wg : List Nat) {ti : DTI} {g : DTG} {tt : DTT} {te : DT} (hd : ((lx ++ lk).all fun i => !ws.contains i) = true) (hw : (wg.all fun i => ws.contains i) = true) {σ : L2.St} {H : Hp} {Q : VK} (h : LE X.K B lk (cLc lx ws ti g tt te) σ H Q) :
    tLc (LI X.K B lk ti) (LG X.K B (lx ++ lk) wg g) (LT X.K B (lx ++ lk) tt) (LE X.K B (lx ++ lk) te) ws σ H Q := by
  obtain ⟨lv, st, tm, tv, Q0, L, R, h, k⟩ := h
  refine ⟨lv, st, tm, tv, _, L, R, h, fun items src cond st1 sv J H1 q W hl R1 D hD => ?_⟩
  obtain ⟨hsrc, hfz, hc0, hgo⟩ := q
  have hdis : ∀ i ∈ lx ++ lk, i ∉ ws := fun i hi z => by
    have := List.all_eq_true.mp hd i hi
    rw [List.contains_iff_mem.mpr z] at this
    cases this
  have hwg : ∀ i ∈ wg, i ∈ ws := fun i hi => List.contains_iff_mem.mp (List.all_eq_true.mp hw i hi)
  have L1 : Lk B (locks src sv ++ lv) (lx ++ lk) := ⟨fun p hp => by
    rcases List.mem_append.mp hp with hp | hp
    · exact List.mem_append_left _ (srcOk_in hsrc (locks_in hp))
    · exact List.mem_append_right _ (L.1 p hp), fun p hp => List.mem_append_right _ (L.2 p hp)⟩
  have hbs : ∀ i, Vl.bor i ∈ src → i ∉ ws := fun i hi => hdis i (List.mem_append_left _ (srcOk_in hsrc hi))
  obtain ⟨F1, O1, R2⟩ := R1.lockAll hl
  have Rtm : RelX X.K B (locks src sv ++ lv) st1 tm σ tv H1 F1 O1 := R2.popAll hl
  -- the values of the own names are laid aside
  obtain ⟨shv, hsl, R3, hsh⟩ := RelX.shelve ws (Rtm.withTm (σ' := σ) (st' := st1) (Rtm.tp.unb σ)) hfz
  have R4 : RelX X.K B (locks src sv ++ lv) st1 (.ow [] :: ((ws.map fun w => (st1[w]?).getD .gone) ++ tm.map unb)) σ (.ref D :: (shv ++ tv)) (upd H1 D (.lst [])) F1 _ := R3.newLst (vs := []) (ds := []) hD .nil
  have R5 := R4.wipe (ws := ws) (fun i hi z => by
    rcases List.mem_cons.mp hi with e | hi
    · cases e
    · rcases List.mem_append.mp hi with hi | hi
      · obtain ⟨w, hw1, hw2⟩ := List.mem_map.mp hi
        have hf := List.all_eq_true.mp hfz w hw1
        rw [hw2] at hf; cases hf
      · obtain ⟨y, _, hy⟩ := List.mem_map.mp hi
        cases y <;> cases hy) (fun p hp => hdis _ (L1.1 p hp))
  have T5 := TmR.sink (F' := F1) (H' := upd H1 D (.lst [])) (fun _ f => f) (fun b u e _ _ => upd_le hD b u e) R5.tp hsrc (fun i v hi e => by rw [wipe_at (hbs i hi)]; exact e) hl R2.tp
  have R6 : Rel X.K B (locks src sv ++ lv) (wipeD ws st1) (src ++ (.ow [] :: ((ws.map fun w => (st1[w]?).getD .gone) ++ tm.map unb))) (L2.wipe σ ws) (sv ++ (.ref D :: (shv ++ tv))) (upd H1 D (.lst [])) := ⟨F1, _, R5.withTm (σ' := σ) (st' := st1) T5⟩
  -- the loop's word
  refine ⟨fun i m H => m = items.length - i ∧ i ≤ items.length ∧ ∃ st acc, Rel X.K B (locks src sv ++ lv) st (src ++ (.ow acc :: ((ws.map fun w => (st1[w]?).getD .gone) ++ tm.map unb))) (L2.wipe σ ws) (sv ++ (.ref D :: (shv ++ tv))) H ∧ cond st ∧
    lcGo ws cond g tt te (fun acc st' => Q0 (.ow acc) (rst st1 ws st')) (items.drop i) acc st, ⟨items.length, by simp, Nat.zero_le _, _, _, R6, hc0, hgo⟩, ?_⟩
  rintro i m H2 ⟨rfl, hi, st2, acc, R7, hc2, hgo2⟩
  by_cases hlt : i < items.length
  · have e : items[i]? = some items[i] := List.getElem?_eq_getElem hlt
    obtain ⟨go, yl⟩ := W.go _ _ _ _ _ _ i _ hc2 R7 e
    refine .inr ⟨go, fun H => ∃ st acc, Rel X.K B (locks src sv ++ lv) st (src ++ (.ow acc :: ((ws.map fun w => (st1[w]?).getD .gone) ++ tm.map unb))) (L2.wipe σ ws) (sv ++ (.ref D :: (shv ++ tv))) H ∧ cond st ∧
      lcGo ws cond g tt te (fun acc st' => Q0 (.ow acc) (rst st1 ws st')) (items.drop (i + 1)) acc st, fun H' n => ⟨items.length - (i + 1), by omega, rfl, hlt, n⟩, fun x H' y => ?_⟩
    rw [List.drop_eq_getElem_cons hlt, lcGo] at hgo2
    have B1 : ∀ acc : List PyData, Bl (src ++ (.ow acc :: ((ws.map fun w => (st1[w]?).getD .gone) ++ tm.map unb))) (lx ++ lk) := fun acc j hj => by
      rcases List.mem_append.mp hj with hj | hj
      · exact List.mem_append_left _ (srcOk_in hsrc hj)
      · rcases List.mem_cons.mp hj with e | hj
        · cases e
        · rcases List.mem_append.mp hj with hj | hj
          · obtain ⟨w, hw1, hw2⟩ := List.mem_map.mp hj
            have hf := List.all_eq_true.mp hfz w hw1
            rw [hw2] at hf; cases hf
          · obtain ⟨z, _, hz⟩ := List.mem_map.mp hj
            cases z <;> cases hz
    refine ⟨_, st2, .fr items[i], _, _, _, L1, B1 acc, yl x H' y, hgo2, fun st3 σ3 H3 q3 f3 R8 => ?_⟩
    have hwe : L2.wipe σ3 ws = L2.wipe σ ws := by
      rw [wipe_eq f3 hwg, wipe_wipe ws ws fun _ h => h]
    -- the turn's end: the own names are forgotten
    have fin : ∀ {stE : List Vl} {accE : List PyData} {HE : Hp}, Rel X.K B (locks src sv ++ lv) stE (src ++ (.ow accE :: ((ws.map fun w => (st1[w]?).getD .gone) ++ tm.map unb))) σ3 (sv ++ (.ref D :: (shv ++ tv))) HE →
        Rel X.K B (locks src sv ++ lv) (wipeD ws stE) (src ++ (.ow accE :: ((ws.map fun w => (st1[w]?).getD .gone) ++ tm.map unb))) (L2.wipe σ ws) (sv ++ (.ref D :: (shv ++ tv))) HE := fun ⟨F, O, RE⟩ => by
      have hh := RE.wipe (ws := ws) (fun i hi z => hdis i (B1 _ i hi) z) (fun p hp => hdis _ (L1.1 p hp))
      rw [hwe] at hh
      exact ⟨F, O, hh⟩
    refine ⟨hwe, ?_⟩
    refine ⟨_, st3, _, _, _, L1, R8, q3, fun b st4 H4 q4 R9 => ?_⟩
    cases b with
    | false =>
      rw [if_neg Bool.false_ne_true] at q4 ⊢
      exact ⟨_, acc, fin R9, q4.1, q4.2⟩
    | true =>
      rw [if_pos rfl] at q4 ⊢
      refine ⟨_, st4, _, _, _, L1, R9, q4, fun y st5 v5 H5 q5 R10 => ?_⟩
      split at q5
      · rename_i z
        obtain ⟨hz1, hz2, hz3⟩ := q5
        obtain ⟨F5, O5, R10⟩ := R10
        have hz : Rp X.K F5 H5 v5 z := R10.top (d := .fr z) (fun i e => by cases e)
        obtain ⟨a, vs, ea, hD5, hlv, kp, R11⟩ := RelX.appTmp hz (R10.pop.popAll hl)
        cases ea
        refine ⟨vs, hD5, by rw [hlv]; exact hz1, wipeD ws st5, acc ++ [z], fin ⟨F5, O5, R11.withTm (σ' := σ) (st' := st1) (TmR.sink (fun _ f => f) kp R11.tp hsrc (fun _ _ _ e => e) hl R10.pop.tp)⟩, hz2, hz3⟩
      · exact q5.elim
  · have e : i = items.length := by omega
    subst e
    rw [List.drop_length, lcGo] at hgo2
    refine .inl ⟨W.stop _ _ _ _ _ _ hc2 R7, ?_⟩
    obtain ⟨F7, O7, R7⟩ := R7
    have R8 := R7.popAll hl
    have T8 : TmR X.K F7 O7 H2 (L2.wipe σ ws) ((ws.map fun w => (st1[w]?).getD .gone) ++ tm.map unb) (shv ++ tv) := R8.tp.2
    have hshl : shv.length = (ws.map fun w => (st1[w]?).getD .gone).length := by rw [hsl, List.length_map]
    have T9 : TmR X.K F7 O7 H2 (L2.wipe σ ws) (tm.map unb) tv := (R8.pop.popAll hshl).tp
    have T10 : TmR X.K F7 O7 H2 σ tm tv := by
      have := T9.unb σ
      rw [List.map_map, show (unb ∘ unb) = unb from funext fun d => by cases d <;> rfl] at this
      exact Rtm.tp.reb this
    have hso : ∀ l : List Nat, frozenAt st1 l = true → srcOk lx (l.map fun w => (st1[w]?).getD .gone) = true := by
      intro l
      induction l with
      | nil => intro _; rfl
      | cons w l ih =>
        intro h
        rw [frozenAt, List.all_cons, Bool.and_eq_true] at h
        have h2 := ih h.2
        rw [List.map_cons]
        revert h2
        generalize (l.map fun w => (st1[w]?).getD .gone) = r
        intro h2
        have h1 := h.1
        cases hx : (st1[w]?).getD .gone with
        | fr _ => exact h2
        | cst _ => exact h2
        | gone => exact h2
        | _ => rw [hx] at h1; cases h1
    have T11 : TmR X.K F7 O7 H2 σ ((ws.map fun w => (st1[w]?).getD .gone) ++ tm) (shv ++ tv) :=
      TmR.sink (fun _ f => f) (fun _ _ e _ _ => e) T10 (hso ws hfz) (fun i v hi e => by
        obtain ⟨w, hw1, hw2⟩ := List.mem_map.mp hi
        have hf := List.all_eq_true.mp hfz w hw1
        rw [hw2] at hf; cases hf) hshl T8
    have RB : RelX X.K B (locks src sv ++ lv) st2 [] σ [] H2 F7 O7 := by
      refine ⟨by have := R8.len; rw [wipe_length] at this; exact this, fun i d e => ?_, trivial, R8.fo, R8.oh, R8.fh, R8.fr, R8.mi, R8.f0, R8.f1, fun p hp => (wipe_some (R8.lk p hp)).1⟩
      rcases R8.sl i d e with z | ⟨u, h1, h2⟩
      · exact .inl z
      · exact .inr ⟨u, (wipe_some h1).1, h2⟩
    have RC := RelX.unshelve ws hsl hfz hsh T8 RB
    have RD : RelX X.K B (locks src sv ++ lv) (rst st1 ws st2) (.ow acc :: ((ws.map fun w => (st1[w]?).getD .gone) ++ tm)) σ (.ref D :: (shv ++ tv)) H2 F7 O7 := by
      refine RC.withTm (σ' := σ) (st' := st1) ⟨.inr ?_, T11⟩
      have := R8.top (d := .ow acc) (fun i e => by cases e)
      rw [List.length_append, List.length_map (f := unb)] at this
      rw [List.length_append]
      exact this
    exact k _ _ _ _ hgo2 (Rel.under hshl (Rel.unlock ⟨F7, O7, RD⟩))
variable {elt tg iter : Expr} {ifs : List Expr} {scope : Scope} {own : List (Str × Nat)}
/-- [elt for tg in iter if ..] -/
theorem de_lc (lx : List Nat) {wg : List Nat} {ti : DTI} {g : DTG} {tt : DTT} {te : DT} (hc : X.calm = true) (hN : X.N.Nodup) (hi : DI X B lk tg iter ti) (ok : BlkOk X.N X.env.scope scope own)
    (hd : ((lx ++ lk).all fun i => !(own.map (·.2)).contains i) = true) (hw : (wg.all fun i => (own.map (·.2)).contains i) = true)
    (hg : ∀ (s : Shared) (H : Hp) (C : Addr) (cl : List (Str × Addr)) (fp : List Addr), DG (X.blk s H scope (compEnvC scope cl C X.env) fp) B (lx ++ lk) wg tg g)
    (ht : ∀ (s : Shared) (H : Hp) (C : Addr) (cl : List (Str × Addr)) (fp : List Addr), DTs (X.blk s H scope (compEnvC scope cl C X.env) fp) B (lx ++ lk) ifs tt)
    (he : ∀ (s : Shared) (H : Hp) (C : Addr) (cl : List (Str × Addr)) (fp : List Addr), DE (X.blk s H scope (compEnvC scope cl C X.env) fp) B (lx ++ lk) elt te)
    (hs : ∀ x, foldedSetIterable iter X.env x = pure x := by intro _; rfl) : DE X B lk (.ListComp elt [⟨tg, iter, ifs, 0⟩] scope pos) (cLc lx (own.map (·.2)) ti g tt te) :=
  PE.weak (pe_lc hc hN hi ok hg ht he hs) fun _ _ _ h => lc_weak lx _ wg hd hw h
/-- y = [..] on one line, y a local: te' is the comprehension, perhaps frozen -/
theorem ds_setLc (lx : List Nat) (i : Nat) {y : Str} {py spos : Pos} {wg : List Nat} {ti : DTI} {g : DTG} {tt : DTT} {te te' : DT} (hle : ∀ σ H Q, LE X.K B lk te' σ H Q → LE X.K B lk (cLc lx (own.map (·.2)) ti g tt te) σ H Q)
    (hc : X.calm = true) (hN : X.N.Nodup) (hl : lk.contains i = false) (hy : X.N[i]? = some y) (hyl : X.env.scope.names.lookup y = some .local)
    (hsw : swapsWith (.ListComp elt [⟨tg, iter, ifs, 0⟩] scope pos) (some (.Name y py)) spos.line X.env = pure true) (hi : DI X B lk tg iter ti) (ok : BlkOk X.N X.env.scope scope own)
    (hd : ((lx ++ lk).all fun i => !(own.map (·.2)).contains i) = true) (hw : (wg.all fun i => (own.map (·.2)).contains i) = true)
    (hg : ∀ (s : Shared) (H : Hp) (C : Addr) (cl : List (Str × Addr)) (fp : List Addr), DG (X.blk s H scope (compEnvC scope cl C X.env) fp) B (lx ++ lk) wg tg g)
    (ht : ∀ (s : Shared) (H : Hp) (C : Addr) (cl : List (Str × Addr)) (fp : List Addr), DTs (X.blk s H scope (compEnvC scope cl C X.env) fp) B (lx ++ lk) ifs tt)
    (he : ∀ (s : Shared) (H : Hp) (C : Addr) (cl : List (Str × Addr)) (fp : List Addr), DE (X.blk s H scope (compEnvC scope cl C X.env) fp) B (lx ++ lk) elt te)
    (hs : ∀ x, foldedSetIterable iter X.env x = pure x := by intro _; rfl) : DS X B lk (.Assign [.Name y py] (.ListComp elt [⟨tg, iter, ifs, 0⟩] scope pos) spos) (cAsg te' (gNm i)) :=
  PS.weak (L2.ps_setLc hc hN hy hyl hsw hi ok hg ht he hs) fun D σ H ⟨lv, st, tm, tv, D0, L, Bt, R, h, k⟩ => by
    have hn : i ∉ lk := fun z => by rw [List.contains_iff_mem.mpr z] at hl; cases hl
    have h2 : LE X.K B lk te' σ H (fun x H1 => D.nx (σ.set i (some x)) H1) := ⟨lv, st, tm, tv, _, L, R, h, fun d st' v H' q R' => k.nx _ _ _ q.2.2 (R'.store q.1 q.2.1 (fun z => hn (Bt i z)) (fun p hp z => hn (z ▸ L.1 p hp)))⟩
    exact lc_weak lx _ wg hd hw (hle _ _ _ h2)
end
end DL

/-! The data layer, part 7: what is walked: lists, tuples, ranges, enumerate, zip. -/
namespace DL
open PySem PySem.Spec PyProof.Rows L2

/-! ### lists, tuples, ranges -/
/-- a thing walked that nobody owns (a fresh list is frozen) or an alias -/
def cSeqI (te : DT) : DTI := fun st Q => te st fun d st' => match d with
  | .ow ds => Q ds [.fr (.list ds)] (fun _ => True) st'
  | .fr (.list ds) => Q ds [d] (fun _ => True) st'
  | .fr (.tuple ds) => Q ds [d] (fun _ => True) st'
  | .scr ns => Q (ns.map .int) [d] (fun _ => True) st'
  | .bor i => (match st'[i]? with
    | some (.ow ds) => Q ds [d] (fun st => st[i]? = some (.ow ds)) st'
    | _ => False)
  | _ => False
section
variable {K : PySem.W.Frag} {B : Ba} {lv : List (Nat × V)} {st tm : List Vl} {σ : L2.St} {tv : List V} {H : Hp} {v : V} {d : Vl}
/-- a source: at each state in which cond holds, its V-list is known -/
theorem wk_list {a : Addr} {ds : List PyData} {cond : List Vl → Prop} (h : ∀ st, cond st → pyO st d = some (.list ds)) : Wk K B (Itl K a) ds [d] [.ref a] cond where
  go := fun lv st tm σ tv H i x hc R e => by
    obtain ⟨F, O, R⟩ := R
    obtain ⟨a', vs, e1, h1, r⟩ := R.lst (h st hc)
    cases e1
    obtain ⟨w, hw, rw⟩ := r.get e
    refine ⟨⟨vs, w, h1, hw⟩, fun y H' z => ?_⟩
    obtain ⟨rfl, z⟩ := z
    have e2 := z vs h1
    rw [hw] at e2
    cases e2
    exact ⟨F, O, R.push (d := .fr x) rw⟩
  stop := fun lv st tm σ tv H hc R => by
    obtain ⟨F, O, R⟩ := R
    obtain ⟨a', vs, e1, h1, r⟩ := R.lst (h st hc)
    cases e1
    exact ⟨vs, h1, by rw [r.length]; exact Nat.le_refl _⟩
theorem wk_tup {a : Addr} {ds : List PyData} {cond : List Vl → Prop} (h : ∀ st, cond st → pyO st d = some (.tuple ds)) : Wk K B (Itt K a) ds [d] [.ref a] cond where
  go := fun lv st tm σ tv H i x hc R e => by
    obtain ⟨F, O, R⟩ := R
    obtain ⟨a', vs, e1, h1, r⟩ := R.tup (h st hc)
    cases e1
    obtain ⟨w, hw, rw⟩ := r.get e
    refine ⟨⟨vs, w, h1, hw⟩, fun y H' z => ?_⟩
    obtain ⟨rfl, z⟩ := z
    have e2 := z vs h1
    rw [hw] at e2
    cases e2
    exact ⟨F, O, R.push (d := .fr x) rw⟩
  stop := fun lv st tm σ tv H hc R => by
    obtain ⟨F, O, R⟩ := R
    obtain ⟨a', vs, e1, h1, r⟩ := R.tup (h st hc)
    cases e1
    exact ⟨vs, h1, by rw [r.length]; exact Nat.le_refl _⟩
theorem wk_range {lo : Int} {n : Nat} {cond : List Vl → Prop} : Wk K B (Itr lo n) ((List.range n).map fun (i : Nat) => PyData.int (lo + (i : Int))) [] [] cond where
  go := fun lv st tm σ tv H i x hc R e => by
    have hi : i < n := by
      by_cases h : i < n
      · exact h
      · rw [List.getElem?_eq_none (by rw [List.length_map, List.length_range]; exact Nat.not_lt.mp h)] at e; cases e
    rw [List.getElem?_map, List.getElem?_range hi] at e
    have e' : PyData.int (lo + (i : Int)) = x := Option.some.inj e
    refine ⟨hi, fun y H' z => ?_⟩
    obtain ⟨rfl, rfl⟩ := z
    rw [← e']
    exact R.int _
  stop := fun lv st tm σ tv H hc R => by
    show n ≤ _
    rw [List.length_map, List.length_range]
    exact Nat.le_refl _
end
section
variable {X : Cx} {B : Ba} {lk : List Nat} {tg e : Expr} {te : DT}
def iSeq (K : PySem.W.Frag) (tl : TE) : TI := fun σ H R => tl σ H fun x H1 => ∃ a, x = .ref a ∧ (((∃ xs, SqL K H1 a xs) ∧ R (Itl K a) H1) ∨ ((∃ xs, SqT K H1 a xs) ∧ R (Itt K a) H1))
theorem pi_seq {tl : TE} (hl : PE X e tl) : PI X tg e (iSeq X.K tl) := by
  refine ⟨fun pins s σ H R I h => ?_⟩
  refine thn (hl.run pins s σ H _ I h) fun v s1 ⟨x, H1, I1, r1, q1⟩ => ?_
  obtain ⟨a, e, q1⟩ := q1
  subst e
  cases r1
  have I2 : ∀ {o : Obj}, Inv X pins σ H1 { s1 with heap := s1.heap.push o } := I1.kept (t' := s1.toks) fun b o e => Heap.get?_push_of_some _ e
  have hf : ∀ b ∈ [s1.heap.objs.size], FpOk X pins H1 b := fun b hb => by
    have e : b = s1.heap.objs.size := by simpa using hb
    subst e
    exact I1.fpOk (Nat.le_refl _) (I1.hok.fresh (Nat.le_refl _))
  rcases q1 with ⟨⟨xs, hq⟩, q⟩ | ⟨⟨xs, hq⟩, q⟩
  · obtain ⟨its, rv, p, hz⟩ := I1.list hq
    refine wpAny_pyIter_list p.isList ?_
    exact ⟨s1.heap.objs.size, [s1.heap.objs.size], _, _, H1, rfl, I2, turn_list a _, ⟨_, Heap.get?_push_size _ rfl, rfl, rfl⟩, hf, q⟩
  · obtain ⟨its, rv, p, hz⟩ := I1.tuple hq
    refine wpAny_pyIter_tuple (show s1.heap.IsTuple a its.toArray from p) ?_
    exact ⟨s1.heap.objs.size, [s1.heap.objs.size], _, _, H1, rfl, I2, turn_tuple a _, ⟨_, Heap.get?_push_size _ rfl, rfl, rfl⟩, hf, q⟩
theorem di_seq (he : DE X B lk e te) : DI X B lk tg e (cSeqI te) := PI.weak (pi_seq he) fun σ H R ⟨lv, st, tm, tv, Q0, L, Rl, h, k⟩ => by
  refine ⟨lv, st, tm, tv, _, L, Rl, h, fun d st' v H' q R' => ?_⟩
  split at q
  · rename_i ds
    have R2 := R'.frzTop
    obtain ⟨a, vs, rfl, h1, _⟩ := R2.lst (d := .fr (.list ds)) rfl
    exact ⟨a, rfl, .inl ⟨⟨vs, h1⟩, k ds [.fr (.list ds)] _ st' [.ref a] _ _ q (wk_list fun _ _ => rfl) rfl R2⟩⟩
  · rename_i ds
    obtain ⟨a, vs, rfl, h1, _⟩ := R'.lst (d := .fr (.list ds)) rfl
    exact ⟨a, rfl, .inl ⟨⟨vs, h1⟩, k ds [.fr (.list ds)] _ st' [.ref a] _ _ q (wk_list fun _ _ => rfl) rfl R'⟩⟩
  · rename_i ds
    obtain ⟨a, vs, rfl, h1, _⟩ := R'.tup (d := .fr (.tuple ds)) rfl
    exact ⟨a, rfl, .inr ⟨⟨vs, h1⟩, k ds [.fr (.tuple ds)] _ st' [.ref a] _ _ q (wk_tup fun _ _ => rfl) rfl R'⟩⟩
  · rename_i ns
    obtain ⟨a, vs, rfl, h1, _⟩ := R'.lst (d := .scr ns) rfl
    exact ⟨a, rfl, .inl ⟨⟨vs, h1⟩, k (ns.map .int) [.scr ns] _ st' [.ref a] _ _ q (wk_list fun _ _ => rfl) rfl R'⟩⟩
  · rename_i i
    split at q
    · rename_i ds e1
      obtain ⟨a, vs, rfl, h1, _⟩ := R'.lst (d := .bor i) (ds := ds) (by simp only [pyO, e1])
      exact ⟨a, rfl, .inl ⟨⟨vs, h1⟩, k ds [.bor i] (fun st => st[i]? = some (.ow ds)) st' [.ref a] _ _ q (wk_list fun st e => by simp only [pyO, e]) rfl R'⟩⟩
    · exact q.elim
  · exact q.elim
/-- range -/
def rng (lo hi : Int) : List PyData := (List.range (hi - lo).toNat).map fun (i : Nat) => PyData.int (lo + (i : Int))
def cRng1 (ta : DTA) : DTI := fun st Q => ta st fun ds st' => match ds with
  | [.fr (.int j)] => -(2 ^ 62) ≤ j ∧ j < 2 ^ 62 ∧ Q (rng 0 j) [] (fun _ => True) st'
  | _ => False
theorem di_range1 {a : Expr} {ta : DTA} {p pos : Pos} (hg : Gl X "range") (hm : X.mg "range" = none) (ha : DA X B lk [a] ta) (hs : starEach [a] X.env = [(false, eval a X.env)] := by rfl) : DI X B lk tg (.Call (.Name "range" p) [a] [] pos) (cRng1 ta) :=
  PI.weak (pi_range1 hg hm ha hs) fun σ H R ⟨lv, st, tm, tv, Q0, L, Rl, h, k⟩ => by
    refine ⟨lv, st, tm, tv, _, L, Rl, h, fun ds st' vs H' q hl R' => ?_⟩
    split at q
    · rename_i j
      match vs, hl with
      | [v], _ =>
        have R2 : Rel X.K B lv st' (.fr (.int j) :: tm) σ (v :: tv) H' := R'
        obtain rfl := R2.isInt
        refine ⟨j, rfl, q.1, q.2.1, ?_⟩
        have W : Wk X.K B (Itr 0 j.toNat) (rng 0 j) [] [] (fun _ => True) := by
          unfold rng; rw [Int.sub_zero]; exact wk_range
        exact k _ [] _ st' [] _ _ q.2.2 W rfl R2.pop
    · exact q.elim
end

/-! ### enumerate, zip: from the library's Goes -/
/-- a list or a tuple -/
inductive SK where
  | l
  | t
def Sq (K : PySem.W.Frag) (H : Hp) : SK → Addr → List V → Prop
  | .l, a, xs => SqL K H a xs
  | .t, a, xs => SqT K H a xs
def IsSq (h : Heap) : SK → Addr → Array Value → Prop
  | .l, a, its => h.IsList a its
  | .t, a, its => h.IsTuple a its
def IsIt (h : Heap) : SK → Addr → Addr → Nat → Prop
  | .l, it, a, i => h.IsListIter it a i
  | .t, it, a, i => h.IsTupleIter it a i
def itObj : SK → Addr → Obj
  | .l, a => { cls := .type "list_iterator", data := .fields #[.ref a, .int 0 0] }
  | .t, a => { cls := .type "tuple_iterator", data := .fields #[.ref a, .int 0 0] }
section
variable {X : Cx} {pins : List (Addr × Obj)} {σ : L2.St} {H : Hp} {s : Shared} {a : Addr} {xs : List V}
theorem sq_is (I : Inv X pins σ H s) {k : SK} (h : Sq X.K H k a xs) : ∃ its : List Value, Vals xs its ∧ IsSq s.heap k a its.toArray ∧ xs.length ≤ sizeLine := by
  cases k with
  | l => obtain ⟨its, r, p, z⟩ := I.list h; exact ⟨its, r, p.isList, z⟩
  | t => obtain ⟨its, r, p, z⟩ := I.tuple h; exact ⟨its, r, p, z⟩
theorem sq_inj (I : Inv X pins σ H s) {k : SK} {ys : List V} (h : Sq X.K H k a xs) (h' : Sq X.K H k a ys) : xs = ys := by
  cases k with
  | l => exact I.list_inj h h'
  | t => exact I.tuple_inj h h'
theorem IsSq.lt {h : Heap} {k : SK} {its : Array Value} (x : IsSq h k a its) : a < h.objs.size := by
  cases k with
  | l => obtain ⟨o, e, _⟩ := x; exact Heap.lt_size e
  | t => obtain ⟨o, e, _⟩ := x; exact Heap.lt_size e
theorem IsIt.at_ {h h' : Heap} {k : SK} {it : Addr} {i : Nat} (x : IsIt h k it a i) (q : ∀ o, h.get? it = some o → h'.get? it = some o) : IsIt h' k it a i := by
  cases k with
  | l => exact Heap.IsListIter.at x q
  | t => exact Heap.IsTupleIter.at x q
theorem IsIt.obj {h : Heap} {k : SK} {it : Addr} {i : Nat} (x : IsIt h k it a i) : ∃ o, h.get? it = some o ∧ ∀ v, o.data ≠ .cell v := by
  cases k with
  | l => obtain ⟨o, e, _, d⟩ := x; exact ⟨o, e, fun v z => by rw [d] at z; cases z⟩
  | t => obtain ⟨o, e, _, d⟩ := x; exact ⟨o, e, fun v z => by rw [d] at z; cases z⟩
theorem isIt_new {h : Heap} {k : SK} {it : Addr} (e : h.get? it = some (itObj k a)) : IsIt h k it a 0 := by
  cases k with
  | l => exact ⟨_, e, rfl, rfl⟩
  | t => exact ⟨_, e, rfl, rfl⟩
theorem begins_k (k : SK) (a : Addr) (its : Array Value) : Begins (.ref a) (itObj k a) fun h => IsSq h k a its := by
  cases k with
  | l => exact begins_list a its
  | t => exact begins_tuple a its
theorem draws_k {prog : Program} {w : World} {A : Around} (hh : A.handled = none) (k : SK) (it a : Addr) (hne : a ≠ it) (its : Array Value) : Draws prog w A it [it, a] its.size (fun i v => its[i]? = some v) (fun i h => IsIt h k it a i ∧ IsSq h k a its) := by
  cases k with
  | l => exact Draws.list hh it a hne its
  | t => exact Draws.tuple hh it a hne its
end

/-- tuples made anew at each turn, of what stands there now -/
def ItP (P : Nat → (Nat → List V) → Hp → Prop) : It :=
  ⟨fun i H => ∃ n val, P n val H ∧ i < n, fun i H v H' => ∃ T us, v = .ref T ∧ H T = none ∧ H' = upd H T (.tup us) ∧ ∀ n val, P n val H → us = val i, fun i H => ∃ val, P i val H⟩
theorem turn_pairs {P : Program} {w : World} {K : PySem.W.Frag} {elts : List Expr} {kk : Nat} {tpos : Pos} {I0 : Addr} {own wr : List Addr} {Pv : Nat → (Nat → List V) → Hp → Prop} {Tn : Nat → Heap → Prop}
    (mem : I0 ∈ own) (hwr : ∀ b ∈ wr, b ∈ own) (hval : ∀ n val H i, Pv n val H → (val i).length ≤ 10)
    (inj : ∀ (X : Cx) pins σ H s n val n' val', X.K = K → Inv X pins σ H s → Pv n val H → Pv n' val' H → val = val')
    (obj : ∀ i h, Tn i h → ∀ b ∈ own, ∃ o, h.get? b = some o ∧ ∀ v, o.data ≠ .cell v)
    (keep : ∀ i h h', Tn i h → (∀ b ∈ own, ∀ o, h.get? b = some o → h'.get? b = some o) → Tn i h')
    (self : ∀ (A : Around) (i : Nat) (s : Shared) (Q : Value → Shared → Prop) (E : Value → Shared → Prop), Tn i s.heap → Q (.ref I0) s → wpAny (model P w) A (pyIter (.ref I0)) Q E s)
    (W : ∀ (X : Cx), X.prog = P → X.w = w → X.K = K → X.calm = true → ∀ (pins : List (Addr × Obj)) (σ : L2.St) (H : Hp) (s : Shared) (n : Nat) (val : Nat → List V) (i : Nat), Inv X pins σ H s → Tn i s.heap → Pv n val H → ∃ (Bh : Heap → Prop) (fp : List Addr), Bh s.heap ∧
      GoesN P w X.A (.Tuple elts kk tpos) I0 fp wr n (fun i h₀ v h => ∃ T us, v = .ref T ∧ h₀.objs.size ≤ T ∧ (i < n → Vals (val i) us) ∧ h.IsTuple T us.toArray) (fun i h => Tn i h ∧ Bh h)) :
    Turn P w K (.Tuple elts kk tpos) (ItP Pv) own I0 Tn where
  mem := mem
  obj := obj
  keep := keep
  item := by
    intro X hP hw hK hc i pins s σ H E I hf st hg
    obtain ⟨n, val, hp, hi⟩ := hg
    obtain ⟨Bh, fp, hB, G⟩ := W X hP hw hK hc pins σ H s n val i I st hp
    subst hP hw
    refine wpAny_mono (G.goes i s (fun v s2 => ∃ x H', Inv X pins σ H' s2 ∧ RelV x v ∧ (ItP Pv).yld i H x H' ∧ Tn (i + 1) s2.heap ∧ ∀ b ∈ own, H' b = none) E hi ⟨st, hB⟩ fun v h' tk hY st' hk _ => ?_) (fun r s1 ⟨u, e, q⟩ => ⟨u, e, q⟩) (fun _ _ z => z)
    obtain ⟨T, us, rfl, hT, rv, it⟩ := hY
    have hn : H T = none := I.hok.fresh hT
    have new : ObjOk X.prog X.w (upd H T (.tup (val i))) h' T (.tup (val i)) := ⟨Nat.le_trans (hval n val H i hp) (by rw [sizeLine_eq]; omega), us, rv hi, it⟩
    refine ⟨.ref T, _, I.turnedNew (ch := own) (fun b o hb e => hk b o (fun z => hb (hwr b z)) e) hf hT new, rfl, ⟨T, _, rfl, hn, rfl, fun n' val' hp' => by rw [inj X pins σ H s n val n' val' hK I hp hp']⟩, st'.1, fun b hb => ?_⟩
    obtain ⟨o, e, _⟩ := obj i s.heap st b hb
    rw [upd_ne (Nat.ne_of_lt (Nat.lt_of_lt_of_le (Heap.lt_size e) hT))]
    exact (hf b hb).1
  done := by
    intro X hP hw hK hc i pins s σ H E I hf st hg
    obtain ⟨val, hp⟩ := hg
    obtain ⟨Bh, fp, hB, G⟩ := W X hP hw hK hc pins σ H s i val i I st hp
    subst hP hw
    exact G.stops s (fun s1 => Inv X pins σ H s1) E ⟨st, hB⟩ fun h' tk hk _ => I.turnedL (ch := own) (fun b o hb e => hk b o (fun z => hb (hwr b z)) e) hf
  self := self
theorem GoesN.stIff {prog : Program} {w : World} {A : Around} {tg : Expr} {I : Addr} {fp wr : List Addr} {n : Nat} {Y : Nat → Heap → Value → Heap → Prop} {St St' : Nat → Heap → Prop} (e : ∀ i h, St i h ↔ St' i h) (W : GoesN prog w A tg I fp wr n Y St) : GoesN prog w A tg I fp wr n Y St' := by
  have : St = St' := funext fun i => funext fun h => propext (e i h)
  exact this ▸ W

/-! enumerate -/
theorem meets_enumerate_newB1 {v : Value} {o : Obj} {H : Heap → Prop} (B : Begins v o H) :
    Meets (Builtin.«enumerate.__new__» ⟨[.type "enumerate", v], []⟩) (fun _ R s => H s.heap ∧
      R (.ok (.ret (.ref (s.heap.push o).objs.size))) { s with heap := (s.heap.push o).push { cls := .type "enumerate", data := .fields #[.none, .bool false, .ref s.heap.objs.size, rawInt 0, .none, .none] } }) :=
  .of_wp fun prog w A R s h => by
    obtain ⟨hp, g, d, tk, os⟩ := s; obtain ⟨h1, h⟩ := h
    have hsub := sub_enumerate
    have q1 : ∀ {A' : Around} {E : Value → Shared → Prop} {Q : Value → Shared → Prop}, Q (.ref hp.objs.size) ⟨hp.push o, g, d, tk, os⟩ → wpAny (model prog w) A' (pyIter v) Q E ⟨hp, g, d, tk, os⟩ :=
      fun q => B.iter prog w _ _ ⟨hp, g, d, tk, os⟩ _ h1 q
    wp_walk using q1
    refine wpAny_stack_any fun st => wpAny_pure ?_
    split
    · rename_i c _ _ _ _ _
      cases (c == Value.type "enumerate")
      · wp_walk using q1
        exact ⟨_, rfl, h⟩
      · wp_walk using q1
        exact ⟨_, rfl, h⟩
    · wp_walk using q1
      exact ⟨_, rfl, h⟩
section
variable {prog : Program} {w : World} {A : Around} {E : Value → Shared → Prop} {s : Shared}
theorem enum_begins1 {v : Value} {o : Obj} {H : Heap → Prop} {Q : Value → Shared → Prop} (B : Begins v o H) (h1 : H s.heap)
    (h : ∀ h', IsEnum h' (s.heap.objs.size + 1) s.heap.objs.size 0 .none → h'.get? s.heap.objs.size = some o → h'.objs.size = s.heap.objs.size + 2 →
      (∀ b o, s.heap.get? b = some o → h'.get? b = some o) → Q (.ref (s.heap.objs.size + 1)) { s with heap := h' }) :
    wpAny (model prog w) A (call (.type "enumerate") [v]) Q E s := by
  refine callType_new F.called_enumerate (by decide) (F.typeCall_enumerate_1 _) (F.newCall_enumerate_1 _) (fun obj => F.args_object_init_2 obj _) F.entry_enumerate_new
    (meets_enumerate_newB1 B) ⟨h1, ?_⟩
  have hz : (s.heap.push o).objs.size = s.heap.objs.size + 1 := Heap.size_push ..
  show _ ∧ _
  rw [hz]
  have he : IsEnum ((s.heap.push o).push { cls := .type "enumerate", data := .fields #[.none, .bool false, .ref s.heap.objs.size, rawInt 0, .none, .none] }) (s.heap.objs.size + 1) s.heap.objs.size 0 .none := by
    have := Heap.get?_push_size (s.heap.push o) (o := { cls := .type "enumerate", data := .fields #[.none, .bool false, .ref s.heap.objs.size, rawInt 0, .none, .none] }) rfl
    rw [hz] at this; exact this
  refine ⟨⟨_, he, rfl⟩, h _ he (Heap.get?_push_of_some _ (Heap.get?_push_size _ B.free)) (by rw [Heap.size_push, hz]) fun b o x => Heap.get?_push_of_some _ (Heap.get?_push_of_some _ x)⟩
end
def PvE (K : PySem.W.Frag) (k : SK) (a : Addr) : Nat → (Nat → List V) → Hp → Prop := fun n val H => ∃ xs, Sq K H k a xs ∧ n = xs.length ∧ val = fun i => [.int ((i : Nat) : Int), (xs[i]?).getD .non]
theorem turn_enumK {P : Program} {w : World} {K : PySem.W.Frag} {elts : List Expr} {kk : Nat} {tpos : Pos} (k : SK) (a e it : Addr) (hne : e ≠ it) (hea : a ≠ e) (hia : a ≠ it) :
    Turn P w K (.Tuple elts kk tpos) (ItP (PvE K k a)) [e, it] e (fun i h => (∃ old, IsEnum h e it ((0 : Int) + (i : Int)) old) ∧ IsIt h k it a i) := by
  refine turn_pairs (wr := [e, it]) (by simp) (fun b h => h) (fun n val H i ⟨xs, _, _, e⟩ => by rw [e]; simp) ?_ ?_ ?_ ?_ ?_
  · rintro X pins σ H s n val n' val' rfl I ⟨xs, h1, rfl, rfl⟩ ⟨ys, h2, rfl, rfl⟩
    rw [sq_inj I h1 h2]
  · intro i h st b hb
    obtain ⟨⟨old, he⟩, hi⟩ := st
    rcases (by simpa using hb : b = e ∨ b = it) with z | z
    · rw [z]; exact ⟨_, he, fun v q => nomatch q⟩
    · rw [z]; exact hi.obj
  · exact fun i h h' st q => let ⟨⟨old, he⟩, hi⟩ := st; ⟨⟨old, q e (by simp) _ he⟩, hi.at_ fun o z => q it (by simp) o z⟩
  · exact fun A i s Q E st h => let ⟨⟨_, he⟩, _⟩ := st; wpAny_pyIter_enum he h
  · intro X hP hw hK hc pins σ H s n val i I st hp
    subst hP hw hK
    obtain ⟨xs, hq, rfl, rfl⟩ := hp
    obtain ⟨its, rv, p, hz⟩ := sq_is I hq
    have hh : X.A.in1.handled = none := I.ok.hd hc
    refine ⟨fun h => IsSq h k a its.toArray, e :: [it, a], p, GoesN.stIff (St := fun i h => (∃ old, IsEnum h e it ((0 : Int) + (i : Int)) old) ∧ IsIt h k it a i ∧ IsSq h k a its.toArray) (fun i h => by rw [and_assoc]) ?_⟩
    have D := draws_k (prog := X.prog) (w := X.w) hh k it a hia its.toArray
    have G := GoesN.enumFrom (elts := elts) (x1 := kk) (pos := tpos) 0 D e hne (by simp [hne, hea.symm]) (by simp)
    have hl : its.toArray.size = xs.length := by rw [List.size_toArray]; exact rv.length.symm
    rw [hl] at G
    refine G.mono fun i h₀ v h hi ⟨T, t, x, e1, hT, hx, it⟩ => ⟨T, [.int (0 + (i : Int)) t, x], e1, hT, fun _ => ?_, it⟩
    obtain ⟨u, hu, ru⟩ := rv.get (List.getElem?_eq_getElem hi)
    have : u = x := by
      have h2 : its.toArray[i]? = some u := by simpa using hu
      rw [hx] at h2; exact (Option.some.inj h2).symm
    subst this
    refine .cons ⟨t, by rw [Int.zero_add]⟩ (.cons ?_ .nil)
    rw [List.getElem?_eq_getElem hi]
    exact ru
def iEnumK (K : PySem.W.Frag) (ta : TA) : TI := fun σ H R => ta σ H fun vs H1 => ∃ k a xs, vs = [.ref a] ∧ Sq K H1 k a xs ∧ R (ItP (PvE K k a)) H1
theorem pi_enumK {X : Cx} {e : Expr} {ta : TA} {p pos tpos : Pos} {elts : List Expr} {kk : Nat} (hg : Gl X "enumerate") (hm : X.mg "enumerate" = none) (ha : PA X [e] ta) (hs : starEach [e] X.env = [(false, eval e X.env)] := by rfl) :
    PI X (.Tuple elts kk tpos) (.Call (.Name "enumerate" p) [e] [] pos) (iEnumK X.K ta) := by
  refine ⟨fun pins s σ H R I h => ?_⟩
  refine Call_ (ld_blt I hg hm boot_enumerate (PyProof.Rows.callWith_type1 (thn (ha.run pos pins s σ H _ I h) fun us s1 ⟨vs, H1, I1, r1, q1⟩ => ?_) hs rfl))
  obtain ⟨k, a, xs, ex, hq, q⟩ := q1
  subst ex
  cases r1 with
  | cons r rr =>
    cases rr
    cases r
    obtain ⟨its, rv, p', hz⟩ := sq_is I1 hq
    refine enum_begins1 (begins_k k a its.toArray) p' fun h' he hit hsz hk => wpAny_pyIter_enum he ?_
    have I2 : Inv X pins σ H1 { s1 with heap := h' } := I1.kept (t' := s1.toks) hk
    have la := p'.lt
    refine ⟨s1.heap.objs.size + 1, [s1.heap.objs.size + 1, s1.heap.objs.size], _, _, H1, rfl, I2, turn_enumK k a (s1.heap.objs.size + 1) s1.heap.objs.size (Nat.succ_ne_self _) (Nat.ne_of_lt (Nat.lt_succ_of_lt la)) (Nat.ne_of_lt la), ⟨⟨.none, he⟩, isIt_new hit⟩, fun b hb => ?_, q⟩
    have e' : b = s1.heap.objs.size + 1 ∨ b = s1.heap.objs.size := by simpa using hb
    have hle : s1.heap.objs.size ≤ b := by
      rcases e' with z | z
      · rw [z]; exact Nat.le_add_right _ _
      · rw [z]; exact Nat.le_refl _
    exact I1.fpOk hle (I1.hok.fresh hle)

/-! zip of two -/
def PvZ (K : PySem.W.Frag) (k1 k2 : SK) (a b : Addr) : Nat → (Nat → List V) → Hp → Prop := fun n val H => ∃ xs ys, Sq K H k1 a xs ∧ Sq K H k2 b ys ∧ n = min xs.length ys.length ∧ val = fun i => [(xs[i]?).getD .non, (ys[i]?).getD .non]
theorem turn_zipK {P : Program} {w : World} {K : PySem.W.Frag} {elts : List Expr} {kk : Nat} {tpos : Pos} (k1 k2 : SK) (a b N : Addr) (ha : a < N) (hb : b < N) :
    Turn P w K (.Tuple elts kk tpos) (ItP (PvZ K k1 k2 a b)) [N + 4, N + 2, N + 3, N, N + 1] (N + 4) (fun i h => IsZip h (N + 4) (N + 2) (N + 3) .none ∧ IsTupOf2 h (N + 2) (.ref N) (.ref (N + 1)) ∧ (∃ a1 a2, IsTupOf2 h (N + 3) a1 a2) ∧ IsIt h k1 N a i ∧ IsIt h k2 (N + 1) b i) := by
  refine turn_pairs (wr := [N + 4, N + 3, N, N + 1]) (by simp) (fun b h => ?_) (fun n val H i ⟨xs, ys, _, _, _, e⟩ => by rw [e]; simp) ?_ ?_ ?_ ?_ ?_
  · rcases (by simpa using h : b = N + 4 ∨ b = N + 3 ∨ b = N ∨ b = N + 1) with z | z | z | z <;> (rw [z]; simp)
  · rintro X pins σ H s n val n' val' rfl I ⟨xs, ys, h1, h2, rfl, rfl⟩ ⟨xs', ys', h3, h4, rfl, rfl⟩
    rw [sq_inj I h1 h3, sq_inj I h2 h4]
  · intro i h st c hc
    obtain ⟨hz, hTI, ⟨x, y, hTO⟩, h1, h2⟩ := st
    rcases (by simpa using hc : c = N + 4 ∨ c = N + 2 ∨ c = N + 3 ∨ c = N ∨ c = N + 1) with q | q | q | q | q
    · rw [q]; exact ⟨_, hz, fun v q => nomatch q⟩
    · rw [q]; exact ⟨_, hTI, fun v q => nomatch q⟩
    · rw [q]; exact ⟨_, hTO, fun v q => nomatch q⟩
    · rw [q]; exact h1.obj
    · rw [q]; exact h2.obj
  · intro i h h' st q
    obtain ⟨hz, hTI, ⟨x, y, hTO⟩, h1, h2⟩ := st
    exact ⟨q (N + 4) (by simp) _ hz, q (N + 2) (by simp) _ hTI, ⟨x, y, q (N + 3) (by simp) _ hTO⟩, h1.at_ fun o z => q N (by simp) o z, h2.at_ fun o z => q (N + 1) (by simp) o z⟩
  · exact fun A i s Q E st h => wpAny_pyIter_zip st.1 h
  · intro X hP hw hK hc pins σ H s n val i I st hp
    subst hP hw hK
    obtain ⟨xs, ys, hq1, hq2, rfl, rfl⟩ := hp
    obtain ⟨its1, rv1, p1, hz1⟩ := sq_is I hq1
    obtain ⟨its2, rv2, p2, hz2⟩ := sq_is I hq2
    have hh : X.A.in1.handled = none := I.ok.hd hc
    have n1 : a ≠ N := Nat.ne_of_lt ha
    have n2 : b ≠ N + 1 := Nat.ne_of_lt (Nat.lt_succ_of_lt hb)
    have D1 := draws_k (prog := X.prog) (w := X.w) hh k1 N a n1 its1.toArray
    have D2 := draws_k (prog := X.prog) (w := X.w) hh k2 (N + 1) b n2 its2.toArray
    refine ⟨fun h => IsSq h k1 a its1.toArray ∧ IsSq h k2 b its2.toArray, (N + 4) :: (N + 2) :: (N + 3) :: ([N, a] ++ [N + 1, b]), ⟨p1, p2⟩, GoesN.stIff (St := fun i h => IsZip h (N + 4) (N + 2) (N + 3) .none ∧ IsTupOf2 h (N + 2) (.ref N) (.ref (N + 1)) ∧ (∃ a1 a2, IsTupOf2 h (N + 3) a1 a2) ∧ (IsIt h k1 N a i ∧ IsSq h k1 a its1.toArray) ∧ (IsIt h k2 (N + 1) b i ∧ IsSq h k2 b its2.toArray)) (fun i h => ⟨fun ⟨x1, x2, x3, ⟨x4, x5⟩, x6, x7⟩ => ⟨⟨x1, x2, x3, x4, x6⟩, x5, x7⟩, fun ⟨⟨x1, x2, x3, x4, x6⟩, x5, x7⟩ => ⟨x1, x2, x3, ⟨x4, x5⟩, x6, x7⟩⟩) ?_⟩
    have G := GoesN.zip2 (elts := elts) (x1 := kk) (pos := tpos) (zip_sep2 (N := N) (fp1 := [a]) (fp2 := [b]) (fun c h => by rw [List.mem_singleton.mp h]; exact ha) (fun c h => by rw [List.mem_singleton.mp h]; exact hb)) D1 D2
    have hl1 : its1.toArray.size = xs.length := by rw [List.size_toArray]; exact rv1.length.symm
    have hl2 : its2.toArray.size = ys.length := by rw [List.size_toArray]; exact rv2.length.symm
    rw [hl1, hl2] at G
    refine G.mono fun i h₀ v h hi ⟨T, x, y, e1, hT, hx, hy, it⟩ => ⟨T, [x, y], e1, hT, fun _ => ?_, it⟩
    obtain ⟨u, hu, ru⟩ := rv1.get (List.getElem?_eq_getElem (Nat.lt_of_lt_of_le hi (Nat.min_le_left _ _)))
    obtain ⟨u2, hu2, ru2⟩ := rv2.get (List.getElem?_eq_getElem (Nat.lt_of_lt_of_le hi (Nat.min_le_right _ _)))
    have e1 : u = x := by
      have h2 : its1.toArray[i]? = some u := by simpa using hu
      rw [hx] at h2; exact (Option.some.inj h2).symm
    have e2 : u2 = y := by
      have h2 : its2.toArray[i]? = some u2 := by simpa using hu2
      rw [hy] at h2; exact (Option.some.inj h2).symm
    subst e1 e2
    show Vals [(xs[i]?).getD .non, (ys[i]?).getD .non] _
    rw [List.getElem?_eq_getElem (Nat.lt_of_lt_of_le hi (Nat.min_le_left _ _)), List.getElem?_eq_getElem (Nat.lt_of_lt_of_le hi (Nat.min_le_right _ _))]
    exact .cons ru (.cons ru2 .nil)
def iZipK (K : PySem.W.Frag) (ta : TA) : TI := fun σ H R => ta σ H fun vs H1 => ∃ k1 k2 a b xs ys, vs = [.ref a, .ref b] ∧ Sq K H1 k1 a xs ∧ Sq K H1 k2 b ys ∧ R (ItP (PvZ K k1 k2 a b)) H1
theorem pi_zipK {X : Cx} {e e2 : Expr} {ta : TA} {p pos tpos : Pos} {elts : List Expr} {kk : Nat} (hg : Gl X "zip") (hm : X.mg "zip" = none) (ha : PA X [e, e2] ta)
    (hs : starEach [e, e2] X.env = (false, eval e X.env) :: starEach [e2] X.env := by rfl) (hpl : (backTo pos (starEach [e2] X.env)).any (·.1) = false := by rfl) :
    PI X (.Tuple elts kk tpos) (.Call (.Name "zip" p) [e, e2] [] pos) (iZipK X.K ta) := by
  refine ⟨fun pins s σ H R I h => ?_⟩
  refine Call_ (ld_blt I hg hm PyProof.Rows.boot_zip (PyProof.Rows.callWith_type1 (thn (ha.run pos pins s σ H _ I h) fun us s1 ⟨vs, H1, I1, r1, q1⟩ => ?_) hs hpl))
  obtain ⟨k1, k2, a, b, xs, ys, ex, hq1, hq2, q⟩ := q1
  subst ex
  cases r1 with
  | cons r rr =>
    cases rr with
    | cons r' rr =>
      cases rr
      cases r
      cases r'
      obtain ⟨its, rv, p1, _⟩ := sq_is I1 hq1
      obtain ⟨its2, rv2, p2, _⟩ := sq_is I1 hq2
      refine zip_begins2 (begins_k k1 a its.toArray) (begins_k k2 b its2.toArray) p1 p2 fun h' hz hTI hTO g1 g2 hsz hk => wpAny_pyIter_zip hz ?_
      have I2 : Inv X pins σ H1 { s1 with heap := h' } := I1.kept (t' := s1.toks) hk
      refine ⟨s1.heap.objs.size + 4, [s1.heap.objs.size + 4, s1.heap.objs.size + 2, s1.heap.objs.size + 3, s1.heap.objs.size, s1.heap.objs.size + 1], _, _, H1, rfl, I2, turn_zipK k1 k2 a b s1.heap.objs.size p1.lt p2.lt, ⟨hz, hTI, ⟨_, _, hTO⟩, isIt_new g1, isIt_new g2⟩, fun c hcm => ?_, q⟩
      have e' : c = s1.heap.objs.size + 4 ∨ c = s1.heap.objs.size + 2 ∨ c = s1.heap.objs.size + 3 ∨ c = s1.heap.objs.size ∨ c = s1.heap.objs.size + 1 := by simpa using hcm
      have hle : s1.heap.objs.size ≤ c := by
        rcases e' with z | z | z | z | z
        · rw [z]; exact Nat.le_add_right _ _
        · rw [z]; exact Nat.le_add_right _ _
        · rw [z]; exact Nat.le_add_right _ _
        · rw [z]; exact Nat.le_refl _
        · rw [z]; exact Nat.le_add_right _ _
      exact I1.fpOk hle (I1.hok.fresh hle)

/-! ### .. over data -/
def itemsD : PyData → Option (List PyData)
  | .list ds => some ds
  | .tuple ds => some ds
  | _ => none
def kD : PyData → SK
  | .list _ => .l
  | _ => .t
section
variable {K : PySem.W.Frag} {B : Ba} {lv : List (Nat × V)} {st tm : List Vl} {σ : L2.St} {tv : List V} {H : Hp} {F : Addr → Prop} {O : Addr → Option Ow} {v v2 v3 : V} {d d2 d3 : Vl}
theorem RelX.seq {x : PyData} {ds : List PyData} (R : RelX K B lv st (d :: tm) σ (v :: tv) H F O) (e : pyO st d = some x) (i : itemsD x = some ds) : ∃ a vs, v = .ref a ∧ Sq K H (kD x) a vs ∧ RpA K F H vs ds := by
  cases x with
  | list xs => cases i; exact R.lst e
  | tuple xs => cases i; exact R.tup e
  | _ => cases i
def enumD (k : Nat) : List PyData → List PyData
  | [] => []
  | d :: ds => .tuple [.int (k : Int), d] :: enumD (k + 1) ds
theorem enumD_len : ∀ (ds : List PyData) (k : Nat), (enumD k ds).length = ds.length
  | [], _ => rfl
  | _ :: ds, k => congrArg (· + 1) (enumD_len ds (k + 1))
theorem enumD_at : ∀ (ds : List PyData) (k i : Nat), (enumD k ds)[i]? = (ds[i]?).map fun d => .tuple [.int ((k + i : Nat) : Int), d]
  | [], _, i => by simp [enumD]
  | d :: ds, k, 0 => by simp [enumD]
  | d :: ds, k, i + 1 => by
    rw [enumD, List.getElem?_cons_succ, List.getElem?_cons_succ, enumD_at ds (k + 1) i]
    congr 1
    funext x
    rw [show k + 1 + i = k + (i + 1) by omega]
def zip2D (as bs : List PyData) : List PyData := List.zipWith (fun a b => .tuple [a, b]) as bs
theorem wk_enum {a : Addr} {x : PyData} {ds : List PyData} (hi : itemsD x = some ds) : Wk K B (ItP (PvE K (kD x) a)) (enumD 0 ds) [d] [.ref a] (fun st => pyO st d = some x) where
  go := fun lv st tm σ tv H i y hc R e => by
    obtain ⟨F, O, R⟩ := R
    obtain ⟨a', vs, e1, h1, r⟩ := R.seq hc hi
    cases e1
    rw [enumD_at] at e
    obtain ⟨z, hz, rfl⟩ := Option.map_eq_some_iff.mp e
    obtain ⟨w, hw, rw'⟩ := r.get hz
    have hl : i < vs.length := by
      by_cases h : i < vs.length
      · exact h
      · rw [List.getElem?_eq_none (Nat.not_lt.mp h)] at hw; cases hw
    refine ⟨⟨_, _, ⟨vs, h1, rfl, rfl⟩, hl⟩, fun y H' q => ?_⟩
    obtain ⟨T, us, rfl, hn, rfl, q⟩ := q
    have hu := q _ _ ⟨vs, h1, rfl, rfl⟩
    rw [hu, Nat.zero_add]
    refine ⟨F, O, R.newTup hn (.cons (.int _) (.cons ?_ .nil))⟩
    rw [hw]
    exact rw'
  stop := fun lv st tm σ tv H hc R => by
    obtain ⟨F, O, R⟩ := R
    obtain ⟨a', vs, e1, h1, r⟩ := R.seq hc hi
    cases e1
    exact ⟨_, vs, h1, by rw [enumD_len, r.length], rfl⟩
theorem wk_zip {a b : Addr} {x y : PyData} {ds es : List PyData} (hi : itemsD x = some ds) (hj : itemsD y = some es) : Wk K B (ItP (PvZ K (kD x) (kD y) a b)) (zip2D ds es) [d2, d] [.ref b, .ref a] (fun st => pyO st d = some x ∧ pyO st d2 = some y) where
  go := fun lv st tm σ tv H i y hc R e => by
    obtain ⟨F, O, R⟩ := R
    obtain ⟨a', vs, e1, h1, r1⟩ := R.pop.seq hc.1 hi
    cases e1
    obtain ⟨b', ws, e2, h2, r2⟩ := R.seq hc.2 hj
    cases e2
    rw [zip2D, List.getElem?_zipWith] at e
    cases e1 : ds[i]? with
    | none => rw [e1] at e; cases e
    | some z1 =>
      cases e2 : es[i]? with
      | none => rw [e1, e2] at e; cases e
      | some z2 =>
        rw [e1, e2] at e
        cases e
        obtain ⟨w1, hw1, q1⟩ := r1.get e1
        obtain ⟨w2, hw2, q2⟩ := r2.get e2
        have l1 : i < vs.length := by
          by_cases h : i < vs.length
          · exact h
          · rw [List.getElem?_eq_none (Nat.not_lt.mp h)] at hw1; cases hw1
        have l2 : i < ws.length := by
          by_cases h : i < ws.length
          · exact h
          · rw [List.getElem?_eq_none (Nat.not_lt.mp h)] at hw2; cases hw2
        refine ⟨⟨_, _, ⟨vs, ws, h1, h2, rfl, rfl⟩, Nat.lt_min.mpr ⟨l1, l2⟩⟩, fun y H' q => ?_⟩
        obtain ⟨T, us, rfl, hn, rfl, q⟩ := q
        rw [q _ _ ⟨vs, ws, h1, h2, rfl, rfl⟩]
        refine ⟨F, O, R.newTup hn (.cons ?_ (.cons ?_ .nil))⟩
        · rw [hw1]; exact q1
        · rw [hw2]; exact q2
  stop := fun lv st tm σ tv H hc R => by
    obtain ⟨F, O, R⟩ := R
    obtain ⟨a', vs, e1, h1, r1⟩ := R.pop.seq hc.1 hi
    cases e1
    obtain ⟨b', ws, e2, h2, r2⟩ := R.seq hc.2 hj
    cases e2
    refine ⟨_, vs, ws, h1, h2, ?_, rfl⟩
    rw [zip2D, List.length_zipWith, r1.length, r2.length]
end
def cEnum (ta : DTA) : DTI := fun st Q => ta st fun ds st' => match ds with
  | [d] => (match pyO st' d with
    | some x => (match itemsD x with
      | some xs => Q (enumD 0 xs) [d] (fun st => pyO st d = some x) st'
      | _ => False)
    | _ => False)
  | _ => False
def cZip2 (ta : DTA) : DTI := fun st Q => ta st fun ds st' => match ds with
  | [d, d2] => (match pyO st' d, pyO st' d2 with
    | some x, some y => (match itemsD x, itemsD y with
      | some xs, some ys => Q (zip2D xs ys) [d2, d] (fun st => pyO st d = some x ∧ pyO st d2 = some y) st'
      | _, _ => False)
    | _, _ => False)
  | _ => False
section
variable {X : Cx} {B : Ba} {lk : List Nat} {elts : List Expr} {kk : Nat} {tpos : Pos}
theorem di_enum {e : Expr} {ta : DTA} {p pos : Pos} (hg : Gl X "enumerate") (hm : X.mg "enumerate" = none) (ha : DA X B lk [e] ta) (hs : starEach [e] X.env = [(false, eval e X.env)] := by rfl) : DI X B lk (.Tuple elts kk tpos) (.Call (.Name "enumerate" p) [e] [] pos) (cEnum ta) :=
  PI.weak (pi_enumK hg hm ha hs) fun σ H R ⟨lv, st, tm, tv, Q0, L, Rl, h, k⟩ => by
    refine ⟨lv, st, tm, tv, _, L, Rl, h, fun ds st' vs H' q hl R' => ?_⟩
    split at q
    · rename_i d
      match vs, hl with
      | [v], _ =>
        have R2 : Rel X.K B lv st' (d :: tm) σ (v :: tv) H' := R'
        split at q
        · rename_i x e1
          split at q
          · rename_i xs e2
            obtain ⟨F, O, R3⟩ := R2
            obtain ⟨a, ws, rfl, h1, r⟩ := R3.seq e1 e2
            exact ⟨_, a, ws, rfl, h1, k _ [d] _ st' [.ref a] _ _ q (wk_enum e2) rfl ⟨F, O, R3⟩⟩
          · exact q.elim
        · exact q.elim
    · exact q.elim
theorem di_zip2 {e e2 : Expr} {ta : DTA} {p pos : Pos} (hg : Gl X "zip") (hm : X.mg "zip" = none) (ha : DA X B lk [e, e2] ta) (hs : starEach [e, e2] X.env = (false, eval e X.env) :: starEach [e2] X.env := by rfl) (hpl : (backTo pos (starEach [e2] X.env)).any (·.1) = false := by rfl) :
    DI X B lk (.Tuple elts kk tpos) (.Call (.Name "zip" p) [e, e2] [] pos) (cZip2 ta) :=
  PI.weak (pi_zipK hg hm ha hs hpl) fun σ H R ⟨lv, st, tm, tv, Q0, L, Rl, h, k⟩ => by
    refine ⟨lv, st, tm, tv, _, L, Rl, h, fun ds st' vs H' q hl R' => ?_⟩
    split at q
    · rename_i d d2
      match vs, hl with
      | [v, v2], _ =>
        have R2 : Rel X.K B lv st' (d2 :: d :: tm) σ (v2 :: v :: tv) H' := R'
        split at q
        · rename_i x y e1 e3
          split at q
          · rename_i xs ys e2 e4
            obtain ⟨F, O, R3⟩ := R2
            obtain ⟨b, us, rfl, h2, r2⟩ := R3.seq e3 e4
            obtain ⟨a, ws, rfl, h1, r⟩ := R3.pop.seq e1 e2
            exact ⟨_, _, a, b, ws, us, rfl, h1, h2, k _ [d2, d] _ st' [.ref b, .ref a] _ _ q (wk_zip e2 e4) rfl ⟨F, O, R3⟩⟩
          · exact q.elim
        · exact q.elim
    · exact q.elim
end
end DL

/-! The data layer, part 8: built-in functions, slices, list methods, x[i] = e. -/
namespace DL
open PySem PySem.Spec PyProof.Rows L2

/-! ### a built-in function -/
abbrev GF := List Vl → List Vl → (Vl → Prop) → Prop
def FOk (K : PySem.W.Frag) (B : Ba) (g : GF) (r : List V → Hp → VK → Prop) : Prop := ∀ lv st tm σ tv H ds vs Q0 (Q : VK), vs.length = ds.length → Rel K B lv st (ds.reverse ++ tm) σ (vs.reverse ++ tv) H → g st ds Q0 →
  (∀ d w H', Q0 d → Rel K B lv st (d :: tm) σ (w :: tv) H' → Q w H') → r vs H Q
def cFn (g : GF) (ta : DTA) : DT := fun st Q => ta st fun ds st' => g st' ds fun d => Q d st'
section
variable {X : Cx} {B : Ba} {lk : List Nat} {e : Expr} {es : List Expr} {t : DTA} {p pos : Pos} {x : Str} {id T : String} {g : GF} {r : List V → Hp → VK → Prop}
theorem fn_weak {K : PySem.W.Frag} (ok : FOk K B g r) {σ : L2.St} {H : Hp} {Q : VK} (h : LE K B lk (cFn g t) σ H Q) : tCB r (LA K B lk t) σ H Q := by
  obtain ⟨lv, st, tm, tv, Q0, L, R, h, k⟩ := h
  exact ⟨lv, st, tm, tv, _, L, R, h, fun ds st' vs H' q hl R' => ok _ _ _ _ _ _ _ _ _ _ hl R' q fun d w H2 q2 R2 => k _ _ _ _ q2 R2⟩
theorem de_fnB (hc : CallR X (.builtin id) r) (ok : FOk X.K B g r) (hg : Gl X x) (hm : X.mg x = none) (hv : bootBuiltins x = some (.builtin id)) (ha : DA X B lk (e :: es) t) (hn : x ≠ "__name__" := by decide) (hdb : (x == ("__debug__" : Str)) = false := by decide)
    (he : starEach (e :: es) X.env = (false, eval e X.env) :: starEach es X.env := by rfl) (hpl : (backTo pos (starEach es X.env)).any (·.1) = false := by rfl) : DE X B lk (.Call (.Name x p) (e :: es) [] pos) (cFn g t) :=
  PE.weak (pe_callB hc hg hm hv ha hn hdb he hpl) fun _ _ _ h => fn_weak ok h
theorem de_fnT (hc : CallR X (.type T) r) (ok : FOk X.K B g r) (hg : Gl X x) (hm : X.mg x = none) (hv : bootBuiltins x = some (.type T)) (ha : DA X B lk (e :: es) t) (hn : x ≠ "__name__" := by decide) (hdb : (x == ("__debug__" : Str)) = false := by decide)
    (he : starEach (e :: es) X.env = (false, eval e X.env) :: starEach es X.env := by rfl) (hpl : (backTo pos (starEach es X.env)).any (·.1) = false := by rfl) : DE X B lk (.Call (.Name x p) (e :: es) [] pos) (cFn g t) :=
  PE.weak (pe_callTy hc hg hm hv ha hn hdb he hpl) fun _ _ _ h => fn_weak ok h
/-- one argument -/
def F1Ok (K : PySem.W.Frag) (B : Ba) (g : List Vl → Vl → (Vl → Prop) → Prop) (r : List V → Hp → VK → Prop) : Prop := ∀ lv st tm σ tv H d v Q0 (Q : VK) F O, RelX K B lv st (d :: tm) σ (v :: tv) H F O → g st d Q0 →
  (∀ d w H', Q0 d → Rel K B lv st (d :: tm) σ (w :: tv) H' → Q w H') → r [v] H Q
def g1 (g : List Vl → Vl → (Vl → Prop) → Prop) : GF := fun st ds Q => match ds with
  | [d] => g st d Q
  | _ => False
theorem F1Ok.ok {K : PySem.W.Frag} {g : List Vl → Vl → (Vl → Prop) → Prop} {r : List V → Hp → VK → Prop} (h : F1Ok K B g r) : FOk K B (g1 g) r := fun lv st tm σ tv H ds vs Q0 Q hl R q k => by
  unfold g1 at q
  split at q
  · match vs, hl with
    | [v], _ =>
      have R' : Rel K B lv st (_ :: tm) σ (v :: tv) H := R
      obtain ⟨F, O, R'⟩ := R'
      exact h _ _ _ _ _ _ _ _ _ _ F O R' q k
  · exact q.elim
/-- two ints -/
def g2I (f : Int → Int → Int) : GF := fun st ds Q => match ds with
  | [.fr (.int i), .fr (.int j)] => Q (.fr (.int (f i j)))
  | _ => False
theorem g2I_ok {K : PySem.W.Frag} {f g : Int → Int → Int} (e : ∀ i j, g i j = f i j) : FOk K B (g2I f) (fun xs H Q => ∃ i j, xs = [.int i, .int j] ∧ Q (.int (g i j)) H) := fun lv st tm σ tv H ds vs Q0 Q hl R q k => by
  unfold g2I at q
  split at q
  · match vs, hl with
    | [v, w], _ =>
      have R' : Rel K B lv st (.fr (.int _) :: .fr (.int _) :: tm) σ (w :: v :: tv) H := R
      obtain rfl := R'.isInt
      obtain rfl := R'.pop.isInt
      exact ⟨_, _, rfl, by rw [e]; exact k _ _ _ q (R'.pop.pop.int _)⟩
  · exact q.elim

/-! len, abs, max, min of two, sum, any, all -/
def gLen : List Vl → Vl → (Vl → Prop) → Prop := fun st d Q => match pyO st d with
  | some (.list xs) => Q (.fr (.int xs.length))
  | some (.tuple xs) => Q (.fr (.int xs.length))
  | some (.str x) => x.length ≤ sizeLine ∧ Q (.fr (.int x.length))
  | _ => False
theorem gLen_ok {K : PySem.W.Frag} : F1Ok K B gLen (fun xs H Q => ∃ x n, xs = [x] ∧ LenV K x H n ∧ Q (.int n) H) := fun lv st tm σ tv H d v Q0 Q F O R q k => by
  unfold gLen at q
  split at q
  · rename_i xs e
    obtain ⟨a, vs, rfl, h, r⟩ := R.lst e
    exact ⟨_, _, rfl, .inl ⟨vs, h, rfl⟩, by rw [r.length]; exact k _ _ _ q ⟨F, O, R.pop.push (d := .fr (.int _)) (.int _)⟩⟩
  · rename_i xs e
    obtain ⟨a, vs, rfl, h, r⟩ := R.tup e
    exact ⟨_, _, rfl, .inr ⟨vs, h, rfl⟩, by rw [r.length]; exact k _ _ _ q ⟨F, O, R.pop.push (d := .fr (.int _)) (.int _)⟩⟩
  · rename_i x e
    obtain rfl := (R.scal e).2.2.2 x rfl
    exact ⟨_, _, rfl, ⟨q.1, rfl⟩, k _ _ _ q.2 ⟨F, O, R.pop.push (d := .fr (.int _)) (.int _)⟩⟩
  · exact q.elim
theorem de_len (hg : Gl X "len") (hm : X.mg "len" = none) (ha : DA X B lk (e :: es) t) (he : starEach (e :: es) X.env = (false, eval e X.env) :: starEach es X.env := by rfl) (hpl : (backTo pos (starEach es X.env)).any (·.1) = false := by rfl) :
    DE X B lk (.Call (.Name "len" p) (e :: es) [] pos) (cFn (g1 gLen) t) := de_fnB call_len gLen_ok.ok hg hm boot_len ha (he := he) (hpl := hpl)
def gAbs : List Vl → Vl → (Vl → Prop) → Prop := fun st d Q => match d with
  | .fr (.int i) => Q (.fr (.int (i.natAbs : Nat)))
  | _ => False
theorem gAbs_ok {K : PySem.W.Frag} : F1Ok K B gAbs (fun xs H Q => ∃ i, xs = [.int i] ∧ Q (.int (if i < 0 then -i else i)) H) := fun lv st tm σ tv H d v Q0 Q F O R q k => by
  unfold gAbs at q
  split at q
  · rename_i i
    obtain rfl := (R.scal (x := .int i) rfl).2.2.1 i rfl
    have e : (if i < 0 then -i else i) = (i.natAbs : Nat) := by split <;> omega
    exact ⟨_, rfl, by rw [e]; exact k _ _ _ q ⟨F, O, R.pop.push (d := .fr (.int _)) (.int _)⟩⟩
  · exact q.elim
theorem de_abs (hg : Gl X "abs") (hm : X.mg "abs" = none) (ha : DA X B lk (e :: es) t) (he : starEach (e :: es) X.env = (false, eval e X.env) :: starEach es X.env := by rfl) (hpl : (backTo pos (starEach es X.env)).any (·.1) = false := by rfl) :
    DE X B lk (.Call (.Name "abs" p) (e :: es) [] pos) (cFn (g1 gAbs) t) := de_fnB call_abs gAbs_ok.ok hg hm boot_abs ha (he := he) (hpl := hpl)
theorem de_max2 (hc : X.calm = true) (hg : Gl X "max") (hm : X.mg "max" = none) (ha : DA X B lk (e :: es) t) (he : starEach (e :: es) X.env = (false, eval e X.env) :: starEach es X.env := by rfl) (hpl : (backTo pos (starEach es X.env)).any (·.1) = false := by rfl) :
    DE X B lk (.Call (.Name "max" p) (e :: es) [] pos) (cFn (g2I fun i j => max i j) t) := de_fnB (call_max2 hc) (g2I_ok fun i j => by split <;> omega) hg hm boot_max ha (he := he) (hpl := hpl)
theorem de_min2 (hc : X.calm = true) (hg : Gl X "min") (hm : X.mg "min" = none) (ha : DA X B lk (e :: es) t) (he : starEach (e :: es) X.env = (false, eval e X.env) :: starEach es X.env := by rfl) (hpl : (backTo pos (starEach es X.env)).any (·.1) = false := by rfl) :
    DE X B lk (.Call (.Name "min" p) (e :: es) [] pos) (cFn (g2I fun i j => min i j) t) := de_fnB (call_min2 hc) (g2I_ok fun i j => by split <;> omega) hg hm boot_min ha (he := he) (hpl := hpl)
def gBools (f : List Bool → Bool) : List Vl → Vl → (Vl → Prop) → Prop := fun st d Q => ∃ bs : List Bool, pyO st d = some (.list (bs.map .bool)) ∧ Q (.fr (.bool (f bs)))
theorem gBools_ok {K : PySem.W.Frag} {f : List Bool → Bool} : F1Ok K B (gBools f) (fun vs H Q => ∃ (a : Addr) (bs : List Bool), vs = [V.ref a] ∧ SqL K H a (bs.map V.bl) ∧ Q (.bl (f bs)) H) := fun lv st tm σ tv H d v Q0 Q F O R q k => by
  obtain ⟨ns, e, q⟩ := q
  obtain ⟨a, vs, rfl, h, r⟩ := R.lst e
  obtain rfl := r.bools
  exact ⟨a, ns, rfl, h, k _ _ _ q ⟨F, O, R.pop.push (d := .fr (.bool _)) (.bl _)⟩⟩
theorem de_any (hc : X.calm = true) (hg : Gl X "any") (hm : X.mg "any" = none) (ha : DA X B lk (e :: es) t) (he : starEach (e :: es) X.env = (false, eval e X.env) :: starEach es X.env := by rfl) (hpl : (backTo pos (starEach es X.env)).any (·.1) = false := by rfl) :
    DE X B lk (.Call (.Name "any" p) (e :: es) [] pos) (cFn (g1 (gBools fun bs => bs.any _root_.id)) t) := de_fnB (cr_any hc) gBools_ok.ok hg hm (by decide +kernel) ha (he := he) (hpl := hpl)
theorem de_all (hc : X.calm = true) (hg : Gl X "all") (hm : X.mg "all" = none) (ha : DA X B lk (e :: es) t) (he : starEach (e :: es) X.env = (false, eval e X.env) :: starEach es X.env := by rfl) (hpl : (backTo pos (starEach es X.env)).any (·.1) = false := by rfl) :
    DE X B lk (.Call (.Name "all" p) (e :: es) [] pos) (cFn (g1 (gBools fun bs => bs.all _root_.id)) t) := de_fnB (cr_all hc) gBools_ok.ok hg hm (by decide +kernel) ha (he := he) (hpl := hpl)

/-! list, tuple -/
def gLst : List Vl → Vl → (Vl → Prop) → Prop := fun st d Q => match pyO st d with
  | some (.list xs) => Q (.ow xs)
  | some (.tuple xs) => Q (.ow xs)
  | _ => False
def gTpl : List Vl → Vl → (Vl → Prop) → Prop := fun st d Q => match pyO st d with
  | some (.list xs) => Q (.fr (.tuple xs))
  | some (.tuple xs) => Q (.fr (.tuple xs))
  | _ => False
theorem gTpl_ok {K : PySem.W.Frag} : F1Ok K B gTpl (fun xs H Q => ∃ p ys, xs = [.ref p] ∧ ((SqL K H p ys ∧ ∀ l, H l = none → Q (.ref l) (upd H l (.tup ys))) ∨ (SqT K H p ys ∧ Q (.ref p) H))) := fun lv st tm σ tv H d v Q0 Q F O R q k => by
  unfold gTpl at q
  split at q
  · rename_i xs e
    obtain ⟨a, vs, rfl, h, r⟩ := R.lst e
    exact ⟨_, _, rfl, .inl ⟨h, fun l hl => k _ _ _ q ⟨F, _, R.pop.newTup hl r⟩⟩⟩
  · rename_i xs e
    obtain ⟨a, vs, rfl, h, r⟩ := R.tup e
    exact ⟨_, _, rfl, .inr ⟨h, k _ _ _ q ⟨F, O, R.pop.push (d := .fr _) (.tup h r)⟩⟩⟩
  · exact q.elim
theorem de_tuple (hg : Gl X "tuple") (hm : X.mg "tuple" = none) (ha : DA X B lk (e :: es) t) (he : starEach (e :: es) X.env = (false, eval e X.env) :: starEach es X.env := by rfl) (hpl : (backTo pos (starEach es X.env)).any (·.1) = false := by rfl) :
    DE X B lk (.Call (.Name "tuple" p) (e :: es) [] pos) (cFn (g1 gTpl) t) := de_fnT call_tuple_of gTpl_ok.ok hg hm boot_tuple ha (he := he) (hpl := hpl)

/-! sorted -/
theorem eachIs_pairs {K : PySem.W.Frag} {F : Addr → Prop} {H : Hp} : ∀ {vs : List V} {ds : List PyData} {us : List Value}, RpA K F H vs ds → Vals vs us → PySem.W.EachIs (fun u (b : V × PyData) => RelV b.1 u ∧ Rp K F H b.1 b.2) us (vs.zip ds)
  | _, _, _, .nil, .nil => .nil
  | _, _, _, .cons r q, .cons s t => .cons ⟨s, r⟩ (eachIs_pairs q t)
theorem eachIs_un {R : Value → V × PyData → Prop} {K : PySem.W.Frag} {F : Addr → Prop} {H : Hp} (h : ∀ u b, R u b → RelV b.1 u ∧ Rp K F H b.1 b.2) : ∀ {us : List Value} {bs : List (V × PyData)}, PySem.W.EachIs R us bs → Vals (bs.map (·.1)) us ∧ RpA K F H (bs.map (·.1)) (bs.map (·.2))
  | _, _, .nil => ⟨.nil, .nil⟩
  | _, _, .cons q t => ⟨.cons (h _ _ q).1 (eachIs_un h t).1, .cons (h _ _ q).2 (eachIs_un h t).2⟩
def rSortD (K : PySem.W.Frag) : List V → Hp → VK → Prop := fun vs H Q => ∃ (a : Addr) (xs : List V) (F : Addr → Prop) (ds : List PyData), vs = [V.ref a] ∧ SqL K H a xs ∧ RpA K F H xs ds ∧ PySem.W.AllAlike ds ∧ PySem.W.Sortable ds ∧ ds.all (dep 60) = true ∧
  ∀ ys p, RpA K F H ys (ds.mergeSort (PySem.W.dataLe false _root_.id)) → H p = none → Q (.ref p) (upd H p (.lst ys))
theorem map_zip_snd {α β : Type} : ∀ {xs : List α} {ys : List β}, xs.length = ys.length → (xs.zip ys).map (·.2) = ys
  | [], [], _ => rfl
  | _ :: _, _ :: _, h => by rw [List.zip_cons_cons, List.map_cons, map_zip_snd (Nat.succ.inj h)]
  | [], _ :: _, h => by cases h
  | _ :: _, [], h => by cases h
theorem cr_sortD (hu : Un0 X) : CallR X (.builtin "sorted") (rSortD X.K) := by
  intro pins s σ H vs us Q I r h
  obtain ⟨a, xs, F, ds, rfl, hs, ra, hal, hso, hd, q⟩ := h
  obtain ⟨its, rv, hl, hz⟩ := I.list hs
  rw [Vals.ref1 r]
  have hlen := ra.length
  have e := eachIs_pairs ra rv
  have em : (xs.zip ds).map (fun b : V × PyData => b.2) = ds := map_zip_snd hlen
  have er : PySem.W.EachIs (fun u (b : V × PyData) => ∃ as, Reads s.heap u b.2 as) its (xs.zip ds) := (PySem.W.each_mem e).mono fun u b ⟨⟨z1, z2⟩, hb⟩ => Dq.reads I b.2 b.1 u (dep_nd 60 _ (List.all_eq_true.mp hd _ (List.of_mem_zip hb).2)) z2.dp z1
  refine PySem.W.sorted_data (enc := fun b : V × PyData => b.2) hl.isList e er (by rw [em]; exact hal) (by rw [em]; exact hso) (by rw [List.length_zip, ← hlen, Nat.min_self]; exact hz) (fun b hb => ?_) fun out ho eo => ?_
  · have hm : b.2 ∈ ds := by rw [← em]; exact List.mem_map.mpr ⟨b, hb, rfl⟩
    have := (dep_ok 60 b.2 (List.all_eq_true.mp hd _ hm)).2
    have hu' : X.A.units + 100 < cLine := hu
    omega
  · obtain ⟨ov, or⟩ := eachIs_un (fun _ _ z => z) eo
    have es : ((xs.zip ds).mergeSort (PySem.W.dataLe false fun b : V × PyData => b.2)).map (fun b : V × PyData => b.2) = ds.mergeSort (PySem.W.dataLe false _root_.id) := by
      have := List.map_mergeSort (r := PySem.W.dataLe false fun b : V × PyData => b.2) (s := PySem.W.dataLe false _root_.id) (f := fun b : V × PyData => b.2) (l := xs.zip ds) (fun _ _ _ _ => rfl)
      rw [this, em]
    rw [es] at or
    obtain ⟨ep, he'⟩ := PyProof.Rows.sortedAll_at s.heap its out.toArray
    have lo : (((xs.zip ds).mergeSort (PySem.W.dataLe false fun b : V × PyData => b.2)).map (fun b : V × PyData => b.1)).length ≤ sizeLine := by
      rw [List.length_map, List.length_mergeSort, List.length_zip, ← hlen, Nat.min_self]; exact hz
    exact ⟨.ref _, _, I.laid (t' := s.toks) (o := .lst _) (fun _ _ => PyProof.Rows.sortedAll_old) (Nat.le_succ _) ⟨lo, out, ep, ov, by simpa using he'⟩, rfl, q _ _ or (I.hok.fresh (Nat.le_succ _))⟩
def gSrt : List Vl → Vl → (Vl → Prop) → Prop := fun st d Q => match pyO st d with
  | some (.list ds) => PySem.W.AllAlike ds ∧ PySem.W.Sortable ds ∧ ds.all (dep 60) = true ∧ Q (.ow (ds.mergeSort (PySem.W.dataLe false _root_.id)))
  | _ => False
theorem gSrt_ok {K : PySem.W.Frag} : F1Ok K B gSrt (rSortD K) := fun lv st tm σ tv H d v Q0 Q F O R q k => by
  unfold gSrt at q
  split at q
  · rename_i ds e
    obtain ⟨a, vs, rfl, h, r⟩ := R.lst e
    exact ⟨a, vs, F, ds, rfl, h, r, q.1, q.2.1, q.2.2.1, fun ys p r' hp => k _ _ _ q.2.2.2 ⟨F, _, R.pop.newLst hp r'⟩⟩
  · exact q.elim
theorem de_sorted (hu : Un0 X) (hg : Gl X "sorted") (hm : X.mg "sorted" = none) (ha : DA X B lk (e :: es) t) (he : starEach (e :: es) X.env = (false, eval e X.env) :: starEach es X.env := by rfl) (hpl : (backTo pos (starEach es X.env)).any (·.1) = false := by rfl) :
    DE X B lk (.Call (.Name "sorted" p) (e :: es) [] pos) (cFn (g1 gSrt) t) := de_fnB (cr_sortD hu) gSrt_ok.ok hg hm boot_sorted ha (he := he) (hpl := hpl)

/-! repr -/
mutual
theorem plain_noDict : ∀ d : PyData, d.plain = true → d.hasDict = false
  | .none, _ => by simp [PyData.hasDict]
  | .bool _, _ => by simp [PyData.hasDict]
  | .int _, _ => by simp [PyData.hasDict]
  | .str _, _ => by simp [PyData.hasDict]
  | .list xs, h => by
    rw [PyData.hasDict]
    exact plain_noDictAll xs (by simpa [PyData.plain] using h)
  | .tuple xs, h => by
    rw [PyData.hasDict]
    exact plain_noDictAll xs (by simpa [PyData.plain] using h)
  | .dict _, h => by simp [PyData.plain] at h
theorem plain_noDictAll : ∀ ds : List PyData, PyData.plainAll ds = true → PyData.hasDictAll ds = false
  | [], _ => by simp [PyData.hasDictAll]
  | d :: ds, h => by
    rw [PyData.plainAll, Bool.and_eq_true] at h
    rw [PyData.hasDictAll, plain_noDict d h.1, plain_noDictAll ds h.2]
    rfl
end
end

/-! ### slices -/
abbrev DTO := List Vl → (Option Int → List Vl → Prop) → Prop
def LO (K : PySem.W.Frag) (B : Ba) (lk : List Nat) (t : DTO) : TO := fun σ H Q => ∃ lv st tm tv Q0, Lk B lv lk ∧ Rel K B lv st tm σ tv H ∧ t st Q0 ∧ ∀ b st' H', Q0 b st' → Rel K B lv st' tm σ tv H' → Q b H'
abbrev DO (X : Cx) (B : Ba) (lk : List Nat) (e : Option Expr) (t : DTO) : Prop := PO X e (LO X.K B lk t)
theorem PO.weak {X : Cx} {e : Option Expr} {t t' : TO} (h : PO X e t) (i : ∀ σ H Q, t' σ H Q → t σ H Q) : PO X e t' := ⟨fun pins s σ H Q I q => h.run pins s σ H Q I (i σ H Q q)⟩
def cNoP : DTO := fun st Q => Q none st
def cPt (t : DT) : DTO := fun st Q => t st fun d st' => match d with
  | .fr (.int i) => Q (some i) st'
  | _ => False
/-- xs[lo:hi] -/
def cut (xs : List PyData) (lo hi : Option Int) : List PyData := (xs.drop (HT.sIx xs.length 0 lo)).take (HT.sIx xs.length xs.length hi - HT.sIx xs.length 0 lo)
def cSl (t : DT) (tl th : DTO) : DT := fun st Q => t st fun d st1 => tl st1 fun lo st2 => th st2 fun hi st3 => match pyO st3 d with
  | some (.list xs) => Q (.ow (cut xs lo hi)) st3
  | some (.tuple xs) => Q (.fr (.tuple (cut xs lo hi))) st3
  | some (.str x) => x.length ≤ sizeLine ∧ Q (.fr (.str (cutS x lo hi))) st3
  | _ => False
section
variable {X : Cx} {B : Ba} {lk : List Nat} {e : Expr} {te : DT} {lo hi : Option Expr} {tl th : DTO} {pos p2 : Pos}
theorem do_no : DO X B lk none cNoP := PO.weak po_none fun σ H Q ⟨lv, st, tm, tv, Q0, L, R, h, k⟩ => k _ _ _ h R
theorem do_at (h : DE X B lk e te) : DO X B lk (some e) (cPt te) := PO.weak (po_some h) fun σ H Q ⟨lv, st, tm, tv, Q0, L, R, h, k⟩ => by
  refine ⟨lv, st, tm, tv, _, L, R, h, fun d st' v H' q R' => ?_⟩
  split at q
  · rename_i i
    obtain rfl := R'.isInt
    exact ⟨i, rfl, k _ _ _ q R'.pop⟩
  · exact q.elim
def rSl3 (K : PySem.W.Frag) : V → Option Int → Option Int → Hp → VK → Prop := fun x lo hi H Q => rSlL K x lo hi H Q ∨ (rSlA K x lo hi H Q ∨ rSlS x lo hi H Q)
theorem sl3 : SlR X (rSl3 X.K) := sl_list.or (sl_tupA.or sl_str)
theorem cut_rp {K : PySem.W.Frag} {F : Addr → Prop} {H : Hp} {vs : List V} {ds : List PyData} (r : RpA K F H vs ds) (lo hi : Option Int) : RpA K F H (cutV vs lo hi) (cut ds lo hi) := by
  unfold cutV cut
  rw [r.length]
  exact (r.drop _).take _
theorem cut_whole {xs : List PyData} {lo hi : Option Int} (h : HT.sIx xs.length 0 lo = 0 ∧ HT.sIx xs.length xs.length hi = xs.length) : cut xs lo hi = xs := by
  unfold cut
  rw [h.1, h.2, List.drop_zero, Nat.sub_zero, List.take_length]
theorem de_slice (ht : DE X B lk e te) (hl : DO X B lk lo tl) (hh : DO X B lk hi th) : DE X B lk (.Subscript e (.Slice lo hi none p2) pos) (cSl te tl th) :=
  PE.weak (pe_slice sl3 ht hl hh) fun σ H Q ⟨lv, st, tm, tv, Q0, L, R, h, k⟩ => by
    refine ⟨lv, st, tm, tv, _, L, R, h, fun d st1 v H1 q1 R1 => ⟨lv, st1, d :: tm, v :: tv, _, L, R1, q1, fun l st2 H2 q2 R2 => ⟨lv, st2, d :: tm, v :: tv, _, L, R2, q2, fun u st3 H3 q R3 => ?_⟩⟩⟩
    obtain ⟨F, O, R4⟩ := R3
    split at q
    · rename_i xs e1
      obtain ⟨a, vs, rfl, h1, r⟩ := R4.lst e1
      exact .inl ⟨a, vs, rfl, h1, fun p hp => k _ _ _ _ q ⟨F, _, R4.pop.newLst hp (cut_rp r _ _)⟩⟩
    · rename_i xs e1
      obtain ⟨a, vs, rfl, h1, r⟩ := R4.tup e1
      refine .inr (.inl ⟨a, vs, rfl, h1, fun hw => ?_, fun _ p hp => k _ _ _ _ q ⟨F, _, R4.pop.newTup hp (cut_rp r _ _)⟩⟩)
      rw [r.length] at hw
      rw [cut_whole hw] at q
      exact k _ _ _ _ q ⟨F, O, R4.pop.push (d := .fr _) (.tup h1 r)⟩
    · rename_i x e1
      obtain rfl := (R4.scal e1).2.2.2 x rfl
      exact .inr (.inr ⟨x, rfl, q.1, k _ _ _ _ q.2 ⟨F, O, R4.pop.push (d := .fr (.str _)) (.str _)⟩⟩)
    · exact q.elim
/-! xs[::-1] -/
section
variable {prog : Program} {w : World} {A : Around} {E : Value → Shared → Prop} {s : Shared}
end
end
end DL

/-! The data layer, part 9: xs[::-1], list methods, x[i] = e. -/
namespace DL
open PySem PySem.Spec PyProof.Rows L2
section
variable {X : Cx} {B : Ba} {lk : List Nat} {e : Expr} {te : DT} {pos p2 : Pos}
end

/-! ### methods of an owned list, through its alias -/
abbrev GM := List PyData → List PyData → (List PyData → PyData → Prop) → Prop
def MOk (g : GM) (r : V → List V → Hp → VK → Prop) : Prop := ∀ (K : PySem.W.Frag) (F : Addr → Prop) H a vs xs us ys Q0 (Q : VK), H a = some (.lst vs) → RpA K F H vs xs → RpA K F H us ys → g xs ys Q0 →
  (∀ zs y vz w, Q0 zs y → RpA K F H vz zs → Rp K F H w y → Q w (upd H a (.lst vz))) → r (.ref a) us H Q
def cMth (g : GM) (to : DT) (ta : DTA) : DT := fun st Q => to st fun d st1 => match d with
  | .bor i => ta st1 fun ds st2 => (match st2[i]?, frs ds with
    | some (.ow xs), some ys => g xs ys fun zs y => Q (.fr y) (st2.set i (.ow zs))
    | _, _ => False)
  | _ => False
section
variable {X : Cx} {B : Ba} {lk : List Nat} {o e : Expr} {es : List Expr} {to : DT} {t : DTA} {name : Str} {apos cpos : Pos} {id : String} {g : GM} {r : V → List V → Hp → VK → Prop}
/-- an alias, as an owned list, has its type at once -/
theorem mth_weak {K : PySem.W.Frag} (ok : MOk g r) {σ : L2.St} {H : Hp} {Q : VK} {lv : List (Nat × V)} {st st1 tm : List Vl} {i : Nat} {v : V} {tv : List V} {H1 : Hp} {Q0 : Vl → List Vl → Prop} {ds : List Vl} {vs : List V} (hl : vs.length = ds.length)
    (R : Rel K B lv st (ds.reverse ++ (.bor i :: tm)) σ (vs.reverse ++ (v :: tv)) H)
    (q : match st[i]?, frs ds with
      | some (.ow xs), some ys => g xs ys fun zs y => Q0 (.fr y) (st.set i (.ow zs))
      | _, _ => False) (k : ∀ d st' v H', Q0 d st' → Rel K B lv st' (d :: tm) σ (v :: tv) H' → Q v H') : r v vs H Q := by
  split at q
  · rename_i xs ys e1 e2
    obtain rfl := frs_eq e2
    obtain ⟨F, O, R⟩ := R
    rw [List.length_map] at hl
    obtain ⟨ra, R1⟩ := RelX.frs hl R
    obtain ⟨a, ws, rfl, ho, h1, r1, hs⟩ := R1.ofAlias e1
    refine ok K F H a ws xs vs ys _ Q h1 r1 ra q fun zs y vz w q2 rz rw' => ?_
    have R2 := (R1.pop).putL ho h1 hs rz
    have kp : Kp F H (upd H a (.lst vz)) := fun b ob eb _ hb => by
      by_cases z : b = a
      · subst z
        rcases hb with f | s
        · have := R1.fo b f
          rw [ho] at this; cases this
        · rw [h1] at eb; cases eb; exact s.elim
      · rw [upd_ne z]; exact eb
    exact k _ _ _ _ q2 ⟨F, O, R2.push (d := .fr y) (Rp.keep (fun _ f => f) kp _ _ rw')⟩
  · exact q.elim
theorem tyL {K : PySem.W.Frag} {lv : List (Nat × V)} {st tm : List Vl} {σ : L2.St} {tv : List V} {H : Hp} {i : Nat} {v : V} {xs : List PyData} (R : Rel K B lv st (.bor i :: tm) σ (v :: tv) H) (e : st[i]? = some (.ow xs)) : tyV K "list" v H := by
  obtain ⟨F, O, R⟩ := R
  obtain ⟨a, ws, rfl, ho, h1, _⟩ := R.ofAlias e
  exact .inl ⟨rfl, ws, SqL.of h1⟩
/-- o.m(e, ..): o a name; the arguments leave o's list a list -/
def cMth' (g : GM) (to : DT) (ta : DTA) : DT := fun st Q => to st fun d st1 => match d with
  | .bor i => (∃ xs, st1[i]? = some (.ow xs)) ∧ ta st1 fun ds st2 => (match st2[i]?, frs ds with
    | some (.ow xs), some ys => g xs ys fun zs y => Q (.fr y) (st2.set i (.ow zs))
    | _, _ => False)
  | _ => False
theorem de_mth (slot : Slot "list" name id) (hty : typeOf (.builtin id) = pure (.type "method_descriptor")) (hm : MtR X id r) (ok : MOk g r) (ho : DE X B lk o to) (ha : DA X B lk (e :: es) t)
    (hbase : attributeBase o name X.env (eval o X.env) = eval o X.env := by rfl)
    (hfew : ((backTo cpos (starEach (e :: es) X.env)).all (fun x => !x.1) && (backToKw cpos (keywordEach [] X.env)).all (fun x => x.1.isSome)
      && decide ((e :: es).length + ([] : List Keyword).length + (if ([] : List Keyword).isEmpty then 0 else 1) < 30)) = true := by rfl)
    (hline : (apos.endLine == cpos.line) = true := by rfl) (hs : starEach (e :: es) X.env = (false, eval e X.env) :: starEach es X.env := by rfl) (hplain : (backTo cpos (starEach es X.env)).any (·.1) = false := by rfl) :
    DE X B lk (.Call (.Attribute o name apos) (e :: es) [] cpos) (cMth' g to t) :=
  PE.weak (pe_bm PySem.F.plainAttrs_list slot hty hm ho ha hbase hfew hline hs hplain) fun σ H Q ⟨lv, st, tm, tv, Q0, L, R, h, k⟩ => by
    refine ⟨lv, st, tm, tv, _, L, R, h, fun d st1 v H1 q1 R1 => ?_⟩
    split at q1
    · rename_i i
      obtain ⟨⟨xs, e1⟩, q1⟩ := q1
      exact ⟨tyL R1 e1, lv, st1, .bor i :: tm, v :: tv, _, L, R1, q1, fun ds st2 vs H2 q2 hl R2 => mth_weak (st1 := st1) (H1 := H1) ok hl R2 q2 k⟩
    · exact q1.elim
def gApp : GM := fun xs ys Q => match ys with
  | [y] => xs.length < sizeLine ∧ Q (xs ++ [y]) .none
  | _ => False
theorem rp1 {K : PySem.W.Frag} {F : Addr → Prop} {H : Hp} {us : List V} {y : PyData} (r : RpA K F H us [y]) : ∃ u, us = [u] ∧ Rp K F H u y := by
  cases r with
  | cons r q => cases q; exact ⟨_, rfl, r⟩
theorem gApp_ok : MOk gApp rAppend := fun K F H a vs xs us ys Q0 Q h r ra q k => by
  unfold gApp at q
  split at q
  · obtain ⟨u, rfl, ru⟩ := rp1 ra
    exact ⟨a, vs, u, rfl, rfl, h, by rw [r.length]; exact q.1, k _ _ _ _ q.2 (r.append (.one ru)) .non⟩
  · exact q.elim
theorem de_append (ho : DE X B lk o to) (ha : DA X B lk [e] t) (hbase : attributeBase o "append" X.env (eval o X.env) = eval o X.env := by rfl)
    (hfew : ((backTo cpos (starEach [e] X.env)).all (fun x => !x.1) && (backToKw cpos (keywordEach [] X.env)).all (fun x => x.1.isSome)
      && decide ([e].length + ([] : List Keyword).length + (if ([] : List Keyword).isEmpty then 0 else 1) < 30)) = true := by rfl)
    (hline : (apos.endLine == cpos.line) = true := by rfl) (hs : starEach [e] X.env = (false, eval e X.env) :: starEach [] X.env := by rfl) (hplain : (backTo cpos (starEach [] X.env)).any (·.1) = false := by rfl) :
    DE X B lk (.Call (.Attribute o "append" apos) [e] [] cpos) (cMth' gApp to t) := de_mth PySem.F.slot_list_append PySem.F.type_list_append mt_append gApp_ok ho ha hbase hfew hline hs hplain
def gIns : GM := fun xs ys Q => match ys with
  | [.int i, y] => xs.length < sizeLine ∧ 0 ≤ i ∧ i < 2 ^ 63 ∧ Q (xs.take i.toNat ++ [y] ++ xs.drop i.toNat) .none
  | _ => False
theorem gIns_ok : MOk gIns (fun x vs H Q => ∃ (l : Addr) (xs : List V) (i : Int) (y : V), x = .ref l ∧ vs = [.int i, y] ∧ H l = some (.lst xs) ∧ xs.length < sizeLine ∧ 0 ≤ i ∧ i < 2 ^ 63 ∧
    Q .non (upd H l (.lst (xs.take i.toNat ++ [y] ++ xs.drop i.toNat)))) := fun K F H a vs xs us ys Q0 Q h r ra q k => by
  unfold gIns at q
  split at q
  · rename_i i y
    cases ra with
    | cons r1 ra =>
      cases r1
      obtain ⟨u, rfl, ru⟩ := rp1 ra
      exact ⟨a, vs, i, u, rfl, rfl, h, by rw [r.length]; exact q.1, q.2.1, q.2.2.1, k _ _ _ _ q.2.2.2 (((r.take _).append (.one ru)).append (r.drop _)) .non⟩
  · exact q.elim
theorem de_insert {e2 : Expr} (ho : DE X B lk o to) (ha : DA X B lk [e, e2] t) (hbase : attributeBase o "insert" X.env (eval o X.env) = eval o X.env := by rfl)
    (hfew : ((backTo cpos (starEach [e, e2] X.env)).all (fun x => !x.1) && (backToKw cpos (keywordEach [] X.env)).all (fun x => x.1.isSome)
      && decide ([e, e2].length + ([] : List Keyword).length + (if ([] : List Keyword).isEmpty then 0 else 1) < 30)) = true := by rfl)
    (hline : (apos.endLine == cpos.line) = true := by rfl) (hs : starEach [e, e2] X.env = (false, eval e X.env) :: starEach [e2] X.env := by rfl) (hplain : (backTo cpos (starEach [e2] X.env)).any (·.1) = false := by rfl) :
    DE X B lk (.Call (.Attribute o "insert" apos) [e, e2] [] cpos) (cMth' gIns to t) := de_mth PySem.F.slot_list_insert PySem.F.type_list_insert mt_insert gIns_ok ho ha hbase hfew hline hs hplain
/-! ### x[i] = e -/
def gSub (to ti : DT) : DTG := fun d st Q => to st fun o st1 => ti st1 fun i st2 => match o, i, d with
  | .bor s, .fr (.int k), .fr y => (match st2[s]? with
    | some (.ow xs) => ∃ j, ixN xs.length k = some j ∧ Q (st2.set s (.ow (xs.set j y)))
    | _ => False)
  | _, _, _ => False
theorem dg_sub {i : Expr} {ti : DT} {pos : Pos} (ho : DE X B lk o to) (hi : DE X B lk i ti)
    (ha : ∀ v, assign (.Subscript o i pos) X.env v = (do
      let ov ← holding [v] (eval o X.env)
      let iv ← holding [v, ov] (eval i X.env)
      standAt pos
      holding [v, ov, iv] (setItem ov iv v)
      release [v, ov, iv] []) := by intro _; rfl) : DG X B lk [] (.Subscript o i pos) (gSub to ti) :=
  PG.weak (pg_sub ho hi set_list ha) fun v σ H Q ⟨lv, st, d, tm, tv, Q0, L, Bt, R, h, k⟩ => by
    refine ⟨lv, st, d :: tm, v :: tv, _, L, R, h, fun o' st1 ov H1 q1 R1 => ⟨lv, st1, o' :: d :: tm, ov :: v :: tv, _, L, R1, q1, fun i' st2 iv H2 q2 R2 => ?_⟩⟩
    split at q2
    · rename_i s k' y
      obtain rfl := R2.isInt
      split at q2
      · rename_i xs e1
        obtain ⟨j, hj, q⟩ := q2
        obtain ⟨F, O, R3⟩ := R2.pop
        obtain ⟨a, ws, rfl, ho', h1, r1, hs⟩ := R3.ofAlias e1
        have rv : Rp X.K F H2 v y := R3.pop.top (d := .fr y) (fun i z => by cases z)
        refine ⟨a, ws, k', j, rfl, rfl, h1, by rw [r1.length]; exact hj, ?_⟩
        exact k _ _ _ q ⟨rfl, fun _ _ => rfl⟩ ⟨F, O, (R3.pop.pop).putL ho' h1 hs (RpA.set rv j r1)⟩
      · exact q2.elim
    · exact q2.elim
end
end DL

/-! The data layer, part 10: a def from its body; the law's end. -/
namespace DL
open PySem PySem.Spec PyProof.Rows L2
variable {T : List (Addr × Str)}

theorem dss_nox {X : Cx} {B : Ba} {lk : List Nat} {b : List Stmt} {t : DTS} (h : DSs X.nox B lk b t) : DSs X B lk b t := PSs.nox h
section
variable {P : Program} {w : World} {K : PySem.W.Frag} {mg : Str → Option Value} {base : Heap} {CX : CXT} {k : Nat} {x qual : Str} {params : Arguments} {body : List Stmt} {scope : Scope} {dvs : List V} {kws : List (Str × V)} {f : Addr} {fd : FuncData}
/-- a def by its body, where no repr is under way (the rows follow the library's rule for any state) -/
theorem fn_ofG {N ps : List Str} {sp : Sp} (F : FunD K x qual params body scope dvs kws f fd) (S : FnScope N ps scope) (len : ∀ vs H Q E, sp vs H Q E → vs.length = ps.length)
    (hbody : ∀ (cdv : Value) (A : Around) (outer : List Env) (s : Shared) (H : Hp) (vs : List V) (Q : VK) (E : XK), Room k (A.deeper (envOfC qual scope s.heap.objs.size f cdv)) → A.guards = some [] → sp vs H Q E →
      ∃ t, PSs (cxOf CX P w K mg base N qual scope f cdv A outer s H E) body t ∧ t { nx := fun _ H' => Q .non H', rt := Q } (start N vs) H) : FnG P w K mg base CX (k + 1) f fd ps sp := by
  obtain ⟨oc, od, dV, kV, doc, pm, an, cdv, ct, osl, rfl, lk, hcd, _, _⟩ := F.ex
  refine ⟨len, fun A outer s H args us vs Q E hr hgd e0 hb r hsp => ?_⟩
  have hl := len _ _ _ _ hsp
  have KX : K.In s.heap := e0.mod.kin.keeps fun b o e => (e0.bs b o e).1
  have lim : s.heap.NoLimit := e0.mod.nolimit.keeps fun b o e => (e0.bs b o e).1
  have hkind : ∀ y ∈ ps.zip us, scope.names.lookup y.1 = some .local ∨ (scope.names.lookup y.1 = some .cell ∧ ((cellsFrom (s.heap.objs.size + 1) scope.names []).lookup y.1).isSome = true) := fun ⟨n, v⟩ hy =>
    (S.par n (List.of_mem_zip hy).1).imp id fun q => ⟨q, PySem.W.cellsFrom_some _ _ _ (.inl q)⟩
  refine codeAny_call_function hr.depth (KX _ _ lk) rfl S.co S.gen rfl (PySem.W.codeRec_of KX hcd) (hb _ _ _ _ ?_)
  refine wpAny_newFunctionEnv_cells S.kind hkind fun env he s1 x => ?_
  subst he
  refine ⟨lim.keeps x.toInCall.keep, codeAny_func ?_⟩
  obtain ⟨t, ht, hq⟩ := hbody cdv A outer s H vs Q E (hr.deeper _) hgd hsp
  have I : Inv (cxOf CX P w K mg base N qual scope f cdv A outer s H E) [] (start N vs) H s1 := inv_start S hr.hd e0 hl r x
  refine wpAny_mono (ht.run [] s1 (start N vs) H _ I hq) (fun fl s' hs => ?_) fun e s' hs => hs
  match fl, hs with
  | .ret u, ⟨v, σ', H', J, rv, q⟩ => exact ⟨v, H', J.os, J.bare, J.base, J.hok, rv, q⟩
  | .next, ⟨σ', H', J, q⟩ => exact ⟨.non, H', J.os, J.bare, J.base, J.hok, rfl, q⟩
  | .brk, ⟨_, _, _, q⟩ => exact False.elim q
  | .cont, ⟨_, _, _, q⟩ => exact False.elim q

/-! ### a def's promise from its body's reading -/
def lvs (lk : List Nat) (vs : List V) : List (Nat × V) := lk.filterMap fun i => (vs[i]?).map fun v => (i, v)
theorem lvs_in {lk : List Nat} {vs : List V} {p : Nat × V} (h : p ∈ lvs lk vs) : p.1 ∈ lk ∧ vs[p.1]? = some p.2 := by
  unfold lvs at h
  obtain ⟨i, hi, e⟩ := List.mem_filterMap.mp h
  obtain ⟨v, hv, rfl⟩ := Option.map_eq_some_iff.mp e
  exact ⟨hi, hv⟩
theorem lvs_of {lk : List Nat} {vs : List V} {i : Nat} {v : V} (h : i ∈ lk) (e : vs[i]? = some v) : (i, v) ∈ lvs lk vs := List.mem_filterMap.mpr ⟨i, h, by rw [e]; rfl⟩
abbrev dEnds (Q0 : Vl → List Vl → Prop) : DEnds := { nx := fun st => Q0 (.fr .none) st, rt := fun d st => (∀ i, d ≠ .bor i) ∧ Q0 d st }
@[reducible] def Ba.wT (B : Ba) (T : List (Addr × Str)) : Ba := ⟨B.H0, B.A0, B.F0, B.L0, T⟩
theorem def_run {N ps : List Str} {lk : List Nat} {n : Nat} {S : VSp} (F : FunD K x qual params body scope dvs kws f fd) (Sc : FnScope N ps scope) (hn : ps.length = n) (hN : n ≤ N.length)
    (t : DTS) (hbody : ∀ (cdv : Value) (A : Around) (outer : List Env) (s : Shared) (H : Hp) (E : XK) (B : Ba), Room k (A.deeper (envOfC qual scope s.heap.objs.size f cdv)) → A.guards = some [] → DSs (cxOf CX P w K mg base N qual scope f cdv A outer s H E) (B.wT T) lk body t)
    (read : ∀ ds Q0 E0, S ds Q0 E0 → t (dEnds Q0) (ds ++ List.replicate (N.length - n) .gone)) : FnG P w K mg base CX (k + 1) f fd ps (spV T K mg lk n S) := by
  refine fn_ofG F Sc (fun vs H Q E h => h.1.trans hn.symm) fun cdv A outer s H vs Q E hr hgd h => ?_
  obtain ⟨hl, F0, O0, ds, Q0, E0, pre, hS, kQ, kE⟩ := h
  let B : Ba := ⟨H, fun a => O0 a ≠ none, F0, lvs lk vs, T⟩
  refine ⟨_, hbody cdv A outer s H E B hr hgd, ?_⟩
  have hlen : ds.length = n := pre.len.trans hl
  have hs : ∀ i v, vs[i]? = some v → (start N vs)[i]? = some (some v) := fun i v e => by
    have hi := (List.getElem?_eq_some_iff.mp e).1
    unfold L2.start
    rw [List.getElem?_append_left (by rw [List.length_map]; exact hi), List.getElem?_map, e]; rfl
  have R : RelX K B (lvs lk vs) (ds ++ List.replicate (N.length - n) .gone) [] (start N vs) [] H F0 (fun a => (O0 a).map Sum.inl) := by
    refine ⟨?_, fun i d e => ?_, (trivial : True), fun a fa => ?_, fun a w e => ?_, pre.fh, ⟨fun a o e _ _ => e, fun a ps e _ => ⟨ps, e⟩, pre.tb⟩, fun a w e => ?_, fun a fa => fa, fun a fa => .inl fa, fun p hp => hs _ _ (lvs_in hp).2⟩
    · unfold L2.start
      rw [List.length_append, List.length_append, List.length_map, List.length_replicate, List.length_replicate, hlen, hl]
    · by_cases hi : i < ds.length
      · rw [List.getElem?_append_left hi] at e
        have hv : i < vs.length := by rw [hl, ← hlen]; exact hi
        rcases pre.av i d _ e (List.getElem?_eq_getElem hv) with z | z
        · exact .inl z
        · exact .inr ⟨_, hs i _ (List.getElem?_eq_getElem hv), z⟩
      · rw [List.getElem?_append_right (Nat.not_lt.mp hi), List.getElem?_replicate] at e
        split at e
        · cases e; exact .inl rfl
        · cases e
    · rw [pre.fo a fa]; rfl
    · obtain ⟨i, ei, _⟩ := Option.map_eq_some_iff.mp e
      exact pre.oh a i ei
    · obtain ⟨i, ei, _⟩ := Option.map_eq_some_iff.mp e
      exact .inl (show O0 a ≠ none by rw [ei]; exact fun z => nomatch z)
  -- behind the body
  have post : ∀ st' σ' (tm : List Vl) (tv : List V) H' F' O', RelX K B (lvs lk vs) st' tm σ' tv H' F' O' → Post K T F0 O0 vs H lk st' H' F' O' := fun st' σ' tm tv H' F' O' R' =>
    ⟨fun i hi d v e1 e2 => by
      rcases R'.sl i d e1 with z | ⟨u, h1, h2⟩
      · exact .inl z
      · have := R'.lk _ (lvs_of hi e2)
        rw [h1] at this
        cases this
        exact .inr h2,
    R'.fo, R'.oh, R'.fh, R'.fr, fun a w e => R'.mi a w e, R'.f0, fun a fa => by
      rcases R'.f1 a fa with z | z | z
      · exact .inl z
      · exact .inr (.inl z)
      · exact .inr (.inr z)⟩
  refine ⟨lvs lk vs, _, [], [], dEnds Q0, ⟨fun p hp => (lvs_in hp).1, fun p hp => hp⟩, (fun i hi => absurd hi List.not_mem_nil), ⟨F0, _, R⟩, read ds Q0 E0 hS, ⟨fun st' σ' H' q ⟨F', O', R'⟩ => ?_, fun d st' v σ' H' q ⟨F', O', R'⟩ => ?_, fun _ _ _ z => z.elim, fun _ _ _ z => z.elim⟩⟩
  · exact kQ (.fr .none) st' .non H' F' O' q (post _ _ _ _ _ _ _ R') .non
  · exact kQ d st' v H' F' O' q.2 (post _ _ _ _ _ _ _ R') (R'.top q.1)
end

/-! ### the law -/
/-- the law's promise: True at every script -/
def lawS (n : Nat) : VSp := fun ds Q _ => ∃ ns : List Int, ns.length ≤ n ∧ ds = [.scr ns] ∧ ∀ ds', Q (.fr (.bool true)) ds'
end DL

/-! The data layer, part 11: loops and comprehensions by what each turn keeps. -/
namespace DL
open PySem PySem.Spec PyProof.Rows L2

/-- one turn of a comprehension: K takes the new item, or none -/
def lcTurn (ws : List Nat) (g : DTG) (tt : DTT) (te : DT) (d : PyData) (st : List Vl) (K : Option PyData → List Vl → Prop) : Prop :=
  g (.fr d) st fun st2 => tt st2 fun b st3 => if b = true then te st3 fun y st4 => (match y with
    | .fr z => K (some z) (wipeD ws st4)
    | _ => False) else K none (wipeD ws st3)
/-- every turn leaves the state as it is and gives r d -/
theorem lc_pure {ws : List Nat} {cond : List Vl → Prop} {g : DTG} {tt : DTT} {te : DT} {Q : List PyData → List Vl → Prop} {st : List Vl} (r : PyData → Option PyData) (hc : cond st) :
    ∀ (items acc : List PyData), acc.length + items.length ≤ sizeLine → (∀ d ∈ items, ∀ K : Option PyData → List Vl → Prop, K (r d) st → lcTurn ws g tt te d st K) → Q (acc ++ items.filterMap r) st → lcGo ws cond g tt te Q items acc st
  | [], acc, _, _, q => by simpa [lcGo] using q
  | d :: ds, acc, hl, step, q => by
    rw [List.length_cons] at hl
    have h := step d List.mem_cons_self (fun o st' => match o with
      | some z => acc.length < sizeLine ∧ cond st' ∧ lcGo ws cond g tt te Q ds (acc ++ [z]) st'
      | none => cond st' ∧ lcGo ws cond g tt te Q ds acc st') (by
        cases e : r d with
        | none => exact ⟨hc, lc_pure r hc ds acc (by omega) (fun d hd => step d (List.mem_cons_of_mem _ hd)) (by rw [List.filterMap_cons, e] at q; exact q)⟩
        | some z => exact ⟨by omega, hc, lc_pure r hc ds (acc ++ [z]) (by rw [List.length_append, List.length_singleton]; omega) (fun d hd => step d (List.mem_cons_of_mem _ hd)) (by
            rw [List.filterMap_cons, e] at q
            rw [List.append_assoc]
            exact q)⟩)
    rw [lcGo]
    exact h
/-- the same over encoded items -/
theorem lc_map {α : Type} {ws : List Nat} {cond : List Vl → Prop} {g : DTG} {tt : DTT} {te : DT} {Q : List PyData → List Vl → Prop} {st : List Vl} (l : List α) (enc : α → PyData) (r : α → Option PyData) {items : List PyData} (hi : items = l.map enc) (hc : cond st) (hl : l.length ≤ sizeLine)
    (step : ∀ a ∈ l, ∀ K : Option PyData → List Vl → Prop, K (r a) st → lcTurn ws g tt te (enc a) st K) (q : Q (l.filterMap r) st) : lcGo ws cond g tt te Q items [] st := by
  subst hi
  have key : ∀ (l : List α) (acc : List PyData), acc.length + l.length ≤ sizeLine → (∀ a ∈ l, ∀ K : Option PyData → List Vl → Prop, K (r a) st → lcTurn ws g tt te (enc a) st K) → Q (acc ++ l.filterMap r) st → lcGo ws cond g tt te Q (l.map enc) acc st := by
    intro l
    induction l with
    | nil => intro acc _ _ q; simpa [lcGo] using q
    | cons a l ih =>
      intro acc hl step q
      rw [List.length_cons] at hl
      rw [List.map_cons, lcGo]
      refine step a List.mem_cons_self (fun o st' => match o with
        | some z => acc.length < sizeLine ∧ cond st' ∧ lcGo ws cond g tt te Q (l.map enc) (acc ++ [z]) st'
        | none => cond st' ∧ lcGo ws cond g tt te Q (l.map enc) acc st') ?_
      cases e : r a with
      | none => exact ⟨hc, ih acc (by omega) (fun d hd => step d (List.mem_cons_of_mem _ hd)) (by rw [List.filterMap_cons, e] at q; exact q)⟩
      | some z => exact ⟨by omega, hc, ih (acc ++ [z]) (by rw [List.length_append, List.length_singleton]; omega) (fun d hd => step d (List.mem_cons_of_mem _ hd)) (by
          rw [List.filterMap_cons, e] at q
          rw [List.append_assoc]
          exact q)⟩
  exact key l [] (by simpa using hl) step (by simpa using q)
theorem for_map {α : Type} {cond : List Vl → Prop} {g : DTG} {tb : DTS} {D : DEnds} (l : List α) (enc : α → PyData) (I : List α → List Vl → Prop) {items : List PyData} {st : List Vl} (hi : items = l.map enc) (h : I l st)
    (step : ∀ a l' st, I (a :: l') st → ∀ K : List Vl → Prop, (∀ st', I l' st' → cond st' → K st') → g (.fr (enc a)) st fun st2 => tb { D with nx := K, ct := K, bk := D.nx } st2)
    (fin : ∀ st, I [] st → D.nx st) : forGo cond g tb D items st := by
  subst hi
  induction l generalizing st with
  | nil => exact fin st h
  | cons a l ih =>
    rw [List.map_cons, forGo]
    exact step a l st h _ fun st' h' hc' => ⟨hc', ih h'⟩
end DL

/-! The data layer, part 12: short names for what gen.py prints. -/
namespace DL
open PySem PySem.Spec PyProof.Rows L2
abbrev kSub : DOp := gI (fun _ _ => True) fun i j => .int (i - j)
abbrev kMul : DOp := gI IntMulOk fun i j => .int (i * j)
abbrev kFdiv : DOp := gI CD fun i j => .int (i / j)
abbrev kMod : DOp := gI (fun _ j => 0 < j) fun i j => .int (i % j)
abbrev kPow : DOp := gI CPow fun i j => .int (i ^ j.toNat)
abbrev kLt : DOp := gI (fun _ _ => True) fun i j => .bool (decide (i < j))
abbrev kLe : DOp := gI (fun _ _ => True) fun i j => .bool (decide (i ≤ j))
abbrev kGt : DOp := gI (fun _ _ => True) fun i j => .bool (decide (j < i))
abbrev kGe : DOp := gI (fun _ _ => True) fun i j => .bool (decide (j ≤ i))
abbrev kltb : Int → Int → Bool := fun i j => decide (i < j)
abbrev kleb : Int → Int → Bool := fun i j => decide (i ≤ j)
abbrev kAny : List Bool → Bool := fun bs => bs.any id
abbrev kAll : List Bool → Bool := fun bs => bs.all id
/-- BlkOk by a run -/
def blkB (N : List Str) (sc scope : Scope) (own : List (Str × Nat)) : Bool :=
  decide (scope.kind = .function) && scope.names.all (fun y => decide (scope.names.lookup y.1 = some y.2)) && own.all (fun p => decide (N[p.2]? = some p.1)) &&
  scope.names.all (fun y => !decide (y.2 = .free) || (decide (sc.names.lookup y.1 = some .cell) || decide (sc.names.lookup y.1 = some .free))) &&
  scope.names.all (fun y => !(decide (y.2 = .local) || decide (y.2 = .cell)) || ((own.map (·.1)).contains y.1 || !N.contains y.1))
theorem blk_ok {N : List Str} {sc scope : Scope} {own : List (Str × Nat)} (h : blkB N sc scope own = true) : BlkOk N sc scope own := by
  unfold blkB at h
  simp only [Bool.and_eq_true] at h
  obtain ⟨⟨⟨⟨h1, h2⟩, h3⟩, h4⟩, h5⟩ := h
  refine ⟨of_decide_eq_true h1, fun y hy => of_decide_eq_true (List.all_eq_true.mp h2 y hy), fun p hp => of_decide_eq_true (List.all_eq_true.mp h3 p hp), fun y hy e => ?_, fun y hy e => ?_⟩
  · have := List.all_eq_true.mp h4 y hy
    rw [decide_eq_true e, Bool.not_true, Bool.false_or, Bool.or_eq_true] at this
    exact this.imp of_decide_eq_true of_decide_eq_true
  · have := List.all_eq_true.mp h5 y hy
    have e' : (decide (y.2 = .local) || decide (y.2 = .cell)) = true := by
      rcases e with e | e
      · rw [decide_eq_true e]; rfl
      · rw [decide_eq_true e, Bool.or_true]
    rw [e', Bool.not_true, Bool.false_or, Bool.or_eq_true] at this
    rcases this with z | z
    · exact .inl (List.contains_iff_mem.mp z)
    · refine .inr fun q => ?_
      rw [List.contains_iff_mem.mpr q] at z
      cases z
theorem un0 {k : Nat} {A : Around} (hr : Room k A) : A.units + 100 < cLine := by have := hr.un; omega
theorem le_frz {K : PySem.W.Frag} {B : Ba} {lk : List Nat} {t : DT} {σ : L2.St} {H : Hp} {Q : VK} (h : LE K B lk (cFrz t) σ H Q) : LE K B lk t σ H Q := by
  obtain ⟨lv, st, tm, tv, Q0, L, R, h, k⟩ := h
  refine ⟨lv, st, tm, tv, _, L, R, h, fun d st' v H' q R' => ?_⟩
  cases d with
  | fr x => exact k _ _ _ _ q R'
  | ow ds => exact k _ _ _ _ q R'.frzTop
  | cst c => exact k _ _ _ _ q R'
  | bor i =>
    try dsimp only at q
    cases z : st'[i]? with
    | none => rw [z] at q; exact q.elim
    | some d =>
      rw [z] at q
      cases d with
      | ow ds => exact k _ _ _ _ q (R'.frzAlias z)
      | _ => exact False.elim q
  | _ => exact False.elim q
end DL

/-! The data layer, part 13: plain facts about data that laws share. -/
namespace DL
open PySem PySem.Spec PyProof.Rows L2
/-- a tuple, a list of whole numbers -/
abbrev pt (xs : List Int) : PyData := .tuple (xs.map .int)
abbrev pl (xs : List Int) : PyData := .list (xs.map .int)
abbrev pts (ps : List (List Int)) : PyData := .tuple (ps.map pt)
theorem eqvAll_ints : ∀ xs ys : List Int, PyData.eqvAll (xs.map .int) (ys.map .int) = decide (xs = ys) := fun xs ys => PySem.W.eqvAll_map xs ys
theorem eqv_int (x y : Int) : PyData.eqv (.int x) (.int y) = decide (x = y) := PySem.W.Datum.eqv x y
theorem eqv_bool (x y : Bool) : PyData.eqv (.bool x) (.bool y) = decide (x = y) := PySem.W.Datum.eqv x y
theorem eqv_str (x y : Str) : PyData.eqv (.str x) (.str y) = decide (x = y) := PySem.W.Datum.eqv x y
theorem eqv_pt (xs ys : List Int) : PyData.eqv (pt xs) (pt ys) = decide (xs = ys) := by rw [pt, pt, PyData.eqv, eqvAll_ints]
theorem eqv_nil (xs : List PyData) : PyData.eqv (.list xs) (.list []) = xs.isEmpty := by
  cases xs <;> simp [PyData.eqv, PyData.eqvAll]
theorem dep_ints (k : Nat) (xs : List Int) : (xs.map PyData.int).all (dep k) = true := by
  rw [List.all_map]
  exact List.all_eq_true.mpr fun x _ => by cases k <;> rfl
theorem dep_pt (k : Nat) (xs : List Int) : dep (k + 1) (pt xs) = true := by simp only [dep]; exact dep_ints k xs
theorem dep_pts (k : Nat) (ps : List (List Int)) : dep (k + 2) (pts ps) = true := by
  simp only [dep]
  rw [List.all_map]
  exact List.all_eq_true.mpr fun x _ => dep_pt k x
theorem dep_pt60 (xs : List Int) : dep 60 (pt xs) = true := dep_pt 59 xs
theorem dep_pts60 (ps : List (List Int)) : dep 60 (pts ps) = true := dep_pts 58 ps
theorem dep_int (k : Nat) (i : Int) : dep k (.int i) = true := by cases k <;> rfl
theorem dep_str (k : Nat) (i : Str) : dep k (.str i) = true := by cases k <;> rfl
theorem zip_ints (xs ys : List Int) : zip2D (xs.map .int) (ys.map .int) = (xs.zip ys).map fun p => .tuple [.int p.1, .int p.2] := by
  unfold zip2D
  rw [List.zipWith_map, List.zip, List.map_zipWith]
theorem small {n k : Nat} (h : n ≤ k) (hk : k ≤ 16777216 := by decide) : n ≤ sizeLine := by rw [sizeLine_eq]; omega
theorem enum_map {α : Type} (f : α → PyData) : ∀ (xs : List α) (k : Nat), enumD k (xs.map f) = (xs.zipIdx k).map fun p => .tuple [.int (p.2 : Nat), f p.1]
  | [], _ => rfl
  | x :: xs, k => by rw [List.map_cons, enumD, enum_map f xs (k + 1), List.zipIdx_cons, List.map_cons]
theorem rng0 (n : Nat) : rng 0 (n : Int) = (List.range n).map fun i => .int (i : Nat) := by
  unfold rng
  rw [Int.sub_zero, Int.toNat_natCast]
  congr 1
  funext i
  rw [Int.zero_add]
theorem cut_take {k : Nat} (xs : List PyData) : cut xs none (some (k : Int)) = xs.take k := by
  unfold cut
  rw [HT.sIx_none, HT.sIx_nat, List.drop_zero, Nat.sub_zero]
  by_cases h : k ≤ xs.length
  · rw [Nat.min_eq_left h]
  · rw [Nat.min_eq_right (by omega), List.take_length, List.take_of_length_le (by omega)]
theorem cut_drop {k : Nat} (xs : List PyData) : cut xs (some (k : Int)) none = xs.drop k := by
  unfold cut
  rw [HT.sIx_none, HT.sIx_nat]
  by_cases h : k ≤ xs.length
  · rw [Nat.min_eq_left h, List.take_of_length_le (by rw [List.length_drop]; exact Nat.le_refl _)]
  · rw [Nat.min_eq_right (by omega), List.drop_length, List.drop_eq_nil_of_le (by omega), List.take_nil]
theorem ixN_ok {n i : Nat} (h : i < n) : ixN n (i : Int) = some i := by
  unfold ixN
  rw [if_pos (by omega), if_pos (by omega), Int.toNat_natCast]
theorem ixN_int {n : Nat} {i : Int} (h0 : 0 ≤ i) (h : i < n) : ixN n i = some i.toNat := by
  unfold ixN
  rw [if_pos h0, if_pos h]
theorem atI_int {α : Type} {xs : List α} {i : Int} (h0 : 0 ≤ i) (h : i < xs.length) : atI xs i = xs[i.toNat]? := by
  unfold atI
  rw [ixN_int h0 h]
  rfl
theorem atI_ok {α : Type} {xs : List α} {i : Nat} {d : α} (h : xs[i]? = some d) : atI xs (i : Int) = some d := by
  unfold atI
  have hl := (List.getElem?_eq_some_iff.mp h).1
  rw [ixN_ok hl]
  exact h
theorem atI_0 {α : Type} (x : α) (xs : List α) : atI (x :: xs) 0 = some x := by
  rw [atI_int (by omega) (by rw [List.length_cons]; omega)]; rfl
theorem atI_1 {α : Type} (x y : α) (xs : List α) : atI (x :: y :: xs) 1 = some y := by
  rw [atI_int (by omega) (by simp only [List.length_cons]; omega)]; rfl
theorem atI_2 {α : Type} (x y z : α) (xs : List α) : atI (x :: y :: z :: xs) 2 = some z := by
  rw [atI_int (by omega) (by simp only [List.length_cons]; omega)]; rfl
theorem atI_3 {α : Type} (x y z u : α) (xs : List α) : atI (x :: y :: z :: u :: xs) 3 = some u := by
  rw [atI_int (by omega) (by simp only [List.length_cons]; omega)]; rfl
theorem atI_4 {α : Type} (x y z u v : α) (xs : List α) : atI (x :: y :: z :: u :: v :: xs) 4 = some v := by
  rw [atI_int (by omega) (by simp only [List.length_cons]; omega)]; rfl
theorem ixN_31 : ixN 3 1 = some 1 := rfl
theorem ixN_32 : ixN 3 2 = some 2 := rfl
/-- a pick of a list of numbers, all of which are alike -/
theorem atI_all {P : Int → Prop} {xs : List PyData} {i : Int} (h0 : 0 ≤ i) (h : i < xs.length) (hp : ∀ d ∈ xs, ∃ p, d = .int p ∧ P p) : ∃ p, atI xs i = some (.int p) ∧ P p := by
  rw [atI_int h0 h]
  have hl : i.toNat < xs.length := by omega
  obtain ⟨p, e, q⟩ := hp _ (List.getElem_mem hl)
  exact ⟨p, by rw [List.getElem?_eq_getElem hl, e], q⟩
/-! sorting, texts -/
theorem sort_ints (xs : List Int) : (xs.map PyData.int).mergeSort (PySem.W.dataLe false id) = (xs.mergeSort fun a b => decide (a ≤ b)).map .int := by
  have h := PySem.W.dataLe_int (β := Int) (fun b => b)
  rw [← h]
  exact (List.map_mergeSort (r := PySem.W.dataLe false fun b : Int => PyData.int b) (s := PySem.W.dataLe false id) (f := PyData.int) (l := xs) fun _ _ _ _ => rfl).symm
theorem alike_ints' (xs : List Int) : PySem.W.AllAlike (xs.map .int) := .of fun _ _ => rfl
theorem sortable_ints (xs : List Int) : PySem.W.Sortable (xs.map .int) := .others fun _ => ⟨(by intro h; cases h), fun _ h => by cases h⟩
end DL

/-! The data layer, part 14: reading step by step. -/
namespace DL
open PySem PySem.Spec PyProof.Rows L2
section
variable {st st' : List Vl} {Q : Vl → List Vl → Prop} {QB : Bool → List Vl → Prop} {QA : List Vl → List Vl → Prop} {QO : Option Int → List Vl → Prop} {d : Vl} {i j : Nat} {a b : Int} {x y : PyData} {xs ys : List PyData} {ta tb tc : DT} {t u : DTT} {v w : Vl} {e f : Bool} {D : DEnds}
theorem s_K (h : Q d st) : cK d st Q := h
theorem s_varF (e : st[i]? = some (.fr x)) (h : Q (.fr x) st) : cVar i st Q := by unfold cVar; rw [e]; exact h
theorem s_varO (e : st[i]? = some (.ow xs)) (h : Q (.bor i) st) : cVar i st Q := by unfold cVar; rw [e]; exact h
theorem s_varS {ns : List Int} (e : st[i]? = some (.scr ns)) (h : Q (.scr ns) st) : cVar i st Q := by unfold cVar; rw [e]; exact h
def FrK (d : Vl) (st' : List Vl) (Q : Vl → List Vl → Prop) : Prop := match d with
  | .bor i => match st'[i]? with
    | some (.ow ds) => Q (.fr (.list ds)) (st'.set i (.fr (.list ds)))
    | _ => False
  | .ow ds => Q (.fr (.list ds)) st'
  | .fr d => Q (.fr d) st'
  | .cst c => Q (.cst c) st'
  | _ => False
theorem s_frz (h : ta st fun d st' => FrK d st' Q) : cFrz ta st Q := h
theorem s_frzF (h : Q (.fr x) st) : FrK (.fr x) st Q := h
theorem s_frzO (h : Q (.fr (.list xs)) st) : FrK (.ow xs) st Q := h
theorem s_c2 {g : DOp} (h : ta st fun x st1 => tb st1 fun y st2 => g st2 x y Q) : c2 g ta tb st Q := h
theorem s_c1 {g : List Vl → Vl → (Vl → List Vl → Prop) → Prop} (h : ta st fun x st1 => g st1 x Q) : c1 g ta st Q := h
theorem s_neg (h : Q (.fr (.int (-a))) st) : gNeg st (.fr (.int a)) Q := h
theorem s_gT {fn : Int → Int → PyData} (h : Q (.fr (fn a b)) st) : gI (fun _ _ => True) fn st (.fr (.int a)) (.fr (.int b)) Q := ⟨trivial, h⟩
theorem s_mul (c : IntMulOk a b) (h : Q (.fr (.int (a * b))) st) : kMul st (.fr (.int a)) (.fr (.int b)) Q := ⟨c, h⟩
theorem s_mod (c : 0 < b) (h : Q (.fr (.int (a % b))) st) : kMod st (.fr (.int a)) (.fr (.int b)) Q := ⟨c, h⟩
theorem s_fdiv (c1 : 0 < b) (c2 : b < 2 ^ 1000) (h : Q (.fr (.int (a / b))) st) : kFdiv st (.fr (.int a)) (.fr (.int b)) Q := ⟨⟨c1, c2⟩, h⟩
theorem s_pow {c : Int} (c1 : 0 ≤ b) (c2 : b ≤ 1000000) (c3 : a.natAbs < 2 ^ 64) (e : a ^ b.toNat = c) (h : Q (.fr (.int c)) st) : kPow st (.fr (.int a)) (.fr (.int b)) Q := by subst e; exact ⟨⟨c1, c2, c3⟩, h⟩
theorem s_addI (h : Q (.fr (.int (a + b))) st) : gAdd st (.fr (.int a)) (.fr (.int b)) Q := h
theorem s_addL (e1 : pyT st v = some (.list xs)) (e2 : pyT st w = some (.list ys)) (hz : xs.length + ys.length ≤ sizeLine) (h : Q (.ow (xs ++ ys)) st) : gAdd st v w Q := by unfold gAdd; rw [e1, e2]; exact ⟨hz, h⟩
theorem s_addT (e1 : pyT st v = some (.tuple xs)) (e2 : pyT st w = some (.tuple ys)) (hz : xs.length + ys.length ≤ sizeLine) (h : Q (.fr (.tuple (xs ++ ys))) st) : gAdd st v w Q := by unfold gAdd; rw [e1, e2]; exact ⟨hz, h⟩
theorem s_eq (e1 : pyO st v = some x) (e2 : pyO st w = some y) (h1 : dep 60 x = true) (h2 : dep 60 y = true) (h : Q (.fr (.bool (PyData.eqv x y))) st) : gEq false st v w Q := by unfold gEq; rw [e1, e2]; exact ⟨h1, h2, h⟩
theorem s_ne (e1 : pyO st v = some x) (e2 : pyO st w = some y) (h1 : dep 60 x = true) (h2 : dep 60 y = true) (h : Q (.fr (.bool (!PyData.eqv x y))) st) : gEq true st v w Q := by unfold gEq; rw [e1, e2]; exact ⟨h1, h2, h⟩
theorem s_ninL (e1 : pyO st v = some x) (e2 : pyO st w = some (.list ys)) (h1 : dep 60 x = true) (h2 : ys.all (dep 60) = true) (h : Q (.fr (.bool (!ys.any fun z => PyData.eqv z x))) st) : gIn true st v w Q := by unfold gIn; rw [e1, e2]; exact ⟨h1, h2, h⟩
theorem s_ixL (e1 : pyO st v = some (.list xs)) (e2 : atI xs a = some x) (h : Q (.fr x) st) : gIx st v (.fr (.int a)) Q := by unfold gIx; rw [e1]; exact ⟨x, e2, h⟩
theorem s_ixT (e1 : pyO st v = some (.tuple xs)) (e2 : atI xs a = some x) (h : Q (.fr x) st) : gIx st v (.fr (.int a)) Q := by unfold gIx; rw [e1]; exact ⟨x, e2, h⟩
def TsK (d : Vl) (st' : List Vl) (Q : Bool → List Vl → Prop) : Prop := match d with
  | .fr (.bool b) => Q b st'
  | _ => False
theorem s_tst (h : ta st fun d st' => TsK d st' QB) : cTst ta st QB := h
theorem s_tstK (h : QB e st) : TsK (.fr (.bool e)) st QB := h
/-- a branch -/
def BR (b : Bool) (A B : Prop) : Prop := if b = true then A else B
theorem s_brT {A B : Prop} (h : A) : BR true A B := h
theorem s_brF {A B : Prop} (h : B) : BR false A B := h
theorem s_br {A B : Prop} {b : Bool} (h1 : b = true → A) (h2 : b = false → B) : BR b A B := by
  unfold BR
  cases b with
  | true => exact h1 rfl
  | false => exact h2 rfl
theorem s_brD {A B P : Prop} [Decidable P] (h1 : P → A) (h2 : ¬ P → B) : BR (decide P) A B := s_br (fun h => h1 (of_decide_eq_true h)) fun h => h2 (of_decide_eq_false h)
theorem s_brN {A B : Prop} {b : Bool} (h : BR b B A) : BR (!b) A B := by cases b <;> exact h
theorem s_brE {α : Type} {l : List α} {A B : Prop} (h1 : l = [] → A) (h2 : l ≠ [] → B) : BR l.isEmpty A B := s_br (fun h => h1 (List.isEmpty_iff.mp h)) fun h => h2 (fun e => by rw [e] at h; cases h)
theorem s_brEq {A B : Prop} {b c : Bool} (e : b = c) (h : BR c A B) : BR b A B := e ▸ h
theorem s_and (h : t st fun c st1 => BR c (u st1 QB) (QB false st1)) : cAnd t u st QB := h
theorem s_or (h : t st fun c st1 => BR c (QB true st1) (u st1 QB)) : cOr t u st QB := h
theorem s_not (h : t st fun c st1 => QB (!c) st1) : cNot t st QB := h
def AvK (tb : DT) (d : Vl) (st1 : List Vl) (Q : Vl → List Vl → Prop) : Prop := match d with
  | .fr (.bool c) => if c = true then tb st1 Q else Q (.fr (.bool false)) st1
  | _ => False
theorem s_andV (h : ta st fun d st1 => AvK tb d st1 Q) : cAndV ta tb st Q := h
theorem s_andVK (h : BR e (tb st Q) (Q (.fr (.bool false)) st)) : AvK tb (.fr (.bool e)) st Q := h
def NvK (d : Vl) (st1 : List Vl) (Q : Vl → List Vl → Prop) : Prop := match d with
  | .fr (.bool c) => Q (.fr (.bool (!c))) st1
  | _ => False
theorem s_notV (h : ta st fun d st1 => NvK d st1 Q) : cNotV ta st Q := h
theorem s_notVK (h : Q (.fr (.bool (!e))) st) : NvK (.fr (.bool e)) st Q := h
def ChK (p q : Int → Int → Bool) (tc : DT) (x y : Vl) (st2 : List Vl) (Q : Vl → List Vl → Prop) : Prop := match x, y with
  | .fr (.int i), .fr (.int j) => if p i j = true then tc st2 fun z st3 => (match z with | .fr (.int k) => Q (.fr (.bool (q j k))) st3 | _ => False) else Q (.fr (.bool false)) st2
  | _, _ => False
theorem s_ch {p q : Int → Int → Bool} (h : ta st fun x st1 => tb st1 fun y st2 => ChK p q tc x y st2 Q) : cCh p q ta tb tc st Q := h
def CiK (z : Vl) (st3 : List Vl) (q : Int → Bool) (Q : Vl → List Vl → Prop) : Prop := match z with | .fr (.int k) => Q (.fr (.bool (q k))) st3 | _ => False
theorem s_chK {p q : Int → Int → Bool} (h : BR (p a b) (tc st fun z st3 => CiK z st3 (q b) Q) (Q (.fr (.bool false)) st)) : ChK p q tc (.fr (.int a)) (.fr (.int b)) st Q := h
theorem s_ciK {q : Int → Bool} (h : Q (.fr (.bool (q a))) st) : CiK (.fr (.int a)) st q Q := h
theorem s_nil (h : QA [] st) : cNil st QA := h
theorem s_cons {tr : DTA} (h : ta st fun x st1 => tr st1 fun xs st2 => QA (x :: xs) st2) : cCons ta tr st QA := h
def TuK (ds : List Vl) (st' : List Vl) (Q : Vl → List Vl → Prop) : Prop := match DL.frs ds with
  | some xs => xs.length ≤ sizeLine ∧ Q (.fr (.tuple xs)) st'
  | none => False
theorem s_tup {tr : DTA} (h : tr st fun ds st' => TuK ds st' Q) : cTup tr st Q := h
theorem s_tupK {ds : List Vl} (e : DL.frs ds = some xs) (hz : xs.length ≤ 1000) (h : Q (.fr (.tuple xs)) st) : TuK ds st Q := by unfold TuK; rw [e]; exact ⟨small hz, h⟩
def LsK (ds : List Vl) (st' : List Vl) (Q : Vl → List Vl → Prop) : Prop := match DL.frs ds with
  | some xs => xs.length ≤ sizeLine ∧ Q (.ow xs) st'
  | none => False
theorem s_lst {tr : DTA} (h : tr st fun ds st' => LsK ds st' Q) : cLst tr st Q := h
theorem s_lstK {ds : List Vl} (e : DL.frs ds = some xs) (hz : xs.length ≤ 1000) (h : Q (.ow xs) st) : LsK ds st Q := by unfold LsK; rw [e]; exact ⟨small hz, h⟩
/-! calls -/
def UpK (ds' ds st : List Vl) (Q : List Vl → Prop) : Prop := Q (upds ds' 0 ds st)
theorem s_up {ds' ds : List Vl} {QT : List Vl → Prop} (e : upds ds' 0 ds st = st') (h : QT st') : UpK ds' ds st QT := by subst e; exact h
def ClK (lk : List Nat) (S : VSp) (ds st1 : List Vl) (Q : Vl → List Vl → Prop) : Prop := S (ds.map (res st1)) (fun r ds' => UpK ds' ds st1 (Q r)) fun _ _ => False
theorem s_call {lk : List Nat} {S : VSp} {tr : DTA} (h : tr st fun ds st1 => okB lk 0 ds = true ∧ ClK lk S ds st1 Q) : cCall lk S tr st Q := h
theorem s_fn {g : GF} {tr : DTA} (h : tr st fun ds st' => g st' ds fun d => Q d st') : cFn g tr st Q := h
theorem s_g1 {g : List Vl → Vl → (Vl → Prop) → Prop} {QF : Vl → Prop} (h : g st v QF) : g1 g st [v] QF := h
section
variable {QF : Vl → Prop}
theorem s_g2 {fn : Int → Int → Int} (h : QF (.fr (.int (fn a b)))) : g2I fn st [.fr (.int a), .fr (.int b)] QF := h
theorem s_lenL (e1 : pyO st v = some (.list xs)) (h : QF (.fr (.int xs.length))) : gLen st v QF := by unfold gLen; rw [e1]; exact h
theorem s_lenT (e1 : pyO st v = some (.tuple xs)) (h : QF (.fr (.int xs.length))) : gLen st v QF := by unfold gLen; rw [e1]; exact h
theorem s_abs (h : QF (.fr (.int (a.natAbs : Nat)))) : gAbs st (.fr (.int a)) QF := h
theorem s_tpl1 (e1 : pyO st v = some (.list xs)) (h : QF (.fr (.tuple xs))) : gTpl st v QF := by unfold gTpl; rw [e1]; exact h
theorem s_bools {fn : List Bool → Bool} (bs : List Bool) (e1 : pyO st v = some (.list xs)) (e2 : xs = bs.map .bool) (h : QF (.fr (.bool (fn bs)))) : gBools fn st v QF := ⟨bs, by rw [e1, e2], h⟩
theorem s_srt (e1 : pyO st v = some (.list xs)) (h1 : PySem.W.AllAlike xs) (h2 : PySem.W.Sortable xs) (h3 : xs.all (dep 60) = true) (h : QF (.ow (xs.mergeSort (PySem.W.dataLe false id)))) : gSrt st v QF := by unfold gSrt; rw [e1]; exact ⟨h1, h2, h3, h⟩
end
section
variable {QF : Vl → Prop}
end
theorem s_ixI {f : Int → Prop} (e1 : pyO st v = some (.list xs)) (e2 : ∃ p, atI xs a = some (.int p) ∧ f p) (h : ∀ p, f p → Q (.fr (.int p)) st) : gIx st v (.fr (.int a)) Q := by
  obtain ⟨p, e, hp⟩ := e2
  exact s_ixL e1 e (h p hp)
/-! slices -/
theorem s_noP (h : QO none st) : cNoP st QO := h
def PtK (d : Vl) (st' : List Vl) (Q : Option Int → List Vl → Prop) : Prop := match d with
  | .fr (.int i) => Q (some i) st'
  | _ => False
theorem s_pt (h : ta st fun d st' => PtK d st' QO) : cPt ta st QO := h
theorem s_ptK (h : QO (some a) st) : PtK (.fr (.int a)) st QO := h
def SlK (d : Vl) (lo hi : Option Int) (st3 : List Vl) (Q : Vl → List Vl → Prop) : Prop := match pyO st3 d with
  | some (.list xs) => Q (.ow (cut xs lo hi)) st3
  | some (.tuple xs) => Q (.fr (.tuple (cut xs lo hi))) st3
  | some (.str x) => x.length ≤ sizeLine ∧ Q (.fr (.str (cutS x lo hi))) st3
  | _ => False
theorem s_sl {tl th : DTO} (h : ta st fun d st1 => tl st1 fun lo st2 => th st2 fun hi st3 => SlK d lo hi st3 Q) : cSl ta tl th st Q := h
theorem s_slL {lo hi : Option Int} (e1 : pyO st v = some (.list xs)) (h : Q (.ow (cut xs lo hi)) st) : SlK v lo hi st Q := by unfold SlK; rw [e1]; exact h
theorem s_slT {lo hi : Option Int} (e1 : pyO st v = some (.tuple xs)) (h : Q (.fr (.tuple (cut xs lo hi))) st) : SlK v lo hi st Q := by unfold SlK; rw [e1]; exact h
def RvK (d : Vl) (st1 : List Vl) (Q : Vl → List Vl → Prop) : Prop := match pyO st1 d with
  | some (.list xs) => Q (.ow xs.reverse) st1
  | some (.tuple xs) => Q (.fr (.tuple xs.reverse)) st1
  | _ => False
/-! methods -/
def MtK (g : GM) (tr : DTA) (d : Vl) (st1 : List Vl) (Q : Vl → List Vl → Prop) : Prop := match d with
  | .bor i => (∃ xs, st1[i]? = some (.ow xs)) ∧ tr st1 fun ds st2 => (match st2[i]?, DL.frs ds with
    | some (.ow xs), some ys => g xs ys fun zs y => Q (.fr y) (st2.set i (.ow zs))
    | _, _ => False)
  | _ => False
/-- an owned list is put back -/
def StK (i : Nat) (zs : List PyData) (st : List Vl) (Q : List Vl → Prop) : Prop := Q (st.set i (.ow zs))
theorem s_st {QT : List Vl → Prop} {zs : List PyData} (e : st.set i (.ow zs) = st') (h : QT st') : StK i zs st QT := by subst e; exact h
def M2K (g : GM) (i : Nat) (ds st2 : List Vl) (Q : Vl → List Vl → Prop) : Prop := match st2[i]?, DL.frs ds with
    | some (.ow xs), some ys => g xs ys fun zs y => Q (.fr y) (st2.set i (.ow zs))
    | _, _ => False
theorem s_mth {g : GM} {tr : DTA} (h : ta st fun d st1 => MtK g tr d st1 Q) : cMth' g ta tr st Q := h
theorem s_mthK {g : GM} {tr : DTA} (e : st[i]? = some (.ow xs)) (h : tr st fun ds st2 => M2K g i ds st2 Q) : MtK g tr (.bor i) st Q := ⟨⟨xs, e⟩, h⟩
theorem s_mth2 {g : GM} {ds : List Vl} (e : st[i]? = some (.ow xs)) (e2 : DL.frs ds = some ys) (h : g xs ys fun zs y => StK i zs st fun st' => Q (.fr y) st') : M2K g i ds st Q := by unfold M2K; rw [e, e2]; exact h
theorem s_app {R : List PyData → PyData → Prop} (hz : xs.length < sizeLine) (h : R (xs ++ [y]) .none) : gApp xs [y] R := ⟨hz, h⟩
theorem s_ins {R : List PyData → PyData → Prop} (hz : xs.length < sizeLine) (h0 : 0 ≤ a) (h1 : a < 2 ^ 63) (h : R (xs.take a.toNat ++ [y] ++ xs.drop a.toNat) .none) : gIns xs [.int a, y] R := ⟨hz, h0, h1, h⟩
/-! targets, statements -/
section
variable {QT : List Vl → Prop}
def isBo : Vl → Bool
  | .bor _ => true
  | _ => false
theorem nbor {d : Vl} (h : isBo d = false) : ∀ j, d ≠ .bor j := fun j e => by subst e; cases h
theorem s_nm (h1 : isBo d = false) (h2 : Nat.ble (i + 1) st.length = true) (e : st.set i d = st') (h : QT st') : gNm i d st QT := ⟨nbor h1, Nat.le_of_ble_eq_true h2, e ▸ h⟩
theorem s_nmI {n : Int} (P : Int → Prop) (h2 : Nat.ble (i + 1) st.length = true) (hp : P n) (h : ∀ m, P m → QT (st.set i (.fr (.int m)))) : gNm i (.fr (.int n)) st QT := s_nm rfl h2 rfl (h n hp)
def SbK (o i d : Vl) (st2 : List Vl) (Q : List Vl → Prop) : Prop := match o, i, d with
  | .bor s, .fr (.int k), .fr y => (match st2[s]? with
    | some (.ow xs) => ∃ j, ixN xs.length k = some j ∧ Q (st2.set s (.ow (xs.set j y)))
    | _ => False)
  | _, _, _ => False
theorem s_sub (h : ta st fun o st1 => tb st1 fun i st2 => SbK o i d st2 QT) : DL.gSub ta tb d st QT := h
theorem s_subK {zs : List PyData} (e : st[i]? = some (.ow xs)) (e2 : ixN xs.length a = some j) (e3 : xs.set j y = zs) (e4 : st.set i (.ow zs) = st') (h : QT st') : SbK (.bor i) (.fr (.int a)) (.fr y) st QT := by
  subst e3 e4
  show (match st[i]? with
    | some (.ow xs) => ∃ j, ixN xs.length a = some j ∧ QT (st.set i (.ow (xs.set j y)))
    | _ => False)
  rw [e]; exact ⟨j, e2, h⟩
theorem s_tu {n : Nat} {gs : DTGs} (e : xs.length = n) (h : gs xs st QT) : gTu n gs (.fr (.tuple xs)) st QT := ⟨e, h⟩
theorem s_gsn (h : QT st) : gsNil [] st QT := ⟨rfl, h⟩
theorem s_gsc {g : DTG} {gs : DTGs} (h : g (.fr x) st fun st' => gs xs st' QT) : gsCons g gs (x :: xs) st QT := h
end
theorem s_next (h : D.nx st) : cNext D st := h
theorem s_seq {t u : DTS} (h : t { D with nx := u D } st) : cSeq t u D st := h
/-- both ways of t lead to I -/
theorem s_seqCut {t u : DTS} (I : List Vl → Prop) (h1 : ∀ K : List Vl → Prop, (∀ st', I st' → K st') → t { D with nx := K } st) (h2 : ∀ st', I st' → u D st') : cSeq t u D st := h1 _ h2
theorem s_drop (h : ta st fun _ st' => D.nx st') : cDrop ta D st := h
theorem s_ret (h : ta st fun d st' => (∀ i, d ≠ .bor i) ∧ D.rt d st') : cRet ta D st := h
theorem s_ifS {c : DTT} {t u : DTS} (h : c st fun b st1 => BR b (t D st1) (u D st1)) : cIfS c t u D st := h
theorem s_asg {g : DTG} (h : ta st fun d st' => g d st' D.nx) : cAsg ta g D st := h
def PaK (i j : Nat) (D : DEnds) (ds st' : List Vl) : Prop := match ds with
  | [x, y] => (∀ k, x ≠ .bor k) ∧ (∀ k, y ≠ .bor k) ∧ i < st'.length ∧ j < st'.length ∧ D.nx ((st'.set j y).set i x)
  | _ => False
/-! what is walked -/
abbrev QIt := List PyData → List Vl → (List Vl → Prop) → List Vl → Prop
variable {QI : QIt}
def SqK (d : Vl) (st' : List Vl) (Q : QIt) : Prop := match d with
  | .ow ds => Q ds [.fr (.list ds)] (fun _ => True) st'
  | .fr (.list ds) => Q ds [d] (fun _ => True) st'
  | .fr (.tuple ds) => Q ds [d] (fun _ => True) st'
  | .scr ns => Q (ns.map .int) [d] (fun _ => True) st'
  | .bor i => (match st'[i]? with
    | some (.ow ds) => Q ds [d] (fun st => st[i]? = some (.ow ds)) st'
    | _ => False)
  | _ => False
theorem s_seqI (h : ta st fun d st' => SqK d st' QI) : cSeqI ta st QI := h
theorem s_sqL (h : QI xs [.fr (.list xs)] (fun _ => True) st) : SqK (.fr (.list xs)) st QI := h
theorem s_sqT (h : QI xs [.fr (.tuple xs)] (fun _ => True) st) : SqK (.fr (.tuple xs)) st QI := h
def R1K (ds st' : List Vl) (Q : QIt) : Prop := match ds with
  | [.fr (.int j)] => -(2 ^ 62) ≤ j ∧ j < 2 ^ 62 ∧ Q (rng 0 j) [] (fun _ => True) st'
  | _ => False
theorem s_rng1 {tr : DTA} (h : tr st fun ds st' => R1K ds st' QI) : cRng1 tr st QI := h
theorem s_rng1K (h1 : -(2 ^ 62) ≤ a) (h2 : a < 2 ^ 62) (h : QI (rng 0 a) [] (fun _ => True) st) : R1K [.fr (.int a)] st QI := ⟨h1, h2, h⟩
def EnK (ds st' : List Vl) (Q : QIt) : Prop := match ds with
  | [d] => (match pyO st' d with
    | some x => (match itemsD x with
      | some xs => Q (enumD 0 xs) [d] (fun st => pyO st d = some x) st'
      | _ => False)
    | _ => False)
  | _ => False
theorem s_enum {tr : DTA} (h : tr st fun ds st' => EnK ds st' QI) : cEnum tr st QI := h
theorem s_enumK (e1 : pyO st v = some x) (e2 : itemsD x = some xs) (h : QI (enumD 0 xs) [v] (fun st => pyO st v = some x) st) : EnK [v] st QI := by
  show (match pyO st v with
    | some x => (match itemsD x with
      | some xs => QI (enumD 0 xs) [v] (fun st => pyO st v = some x) st
      | _ => False)
    | _ => False)
  rw [e1]; dsimp only; rw [e2]; exact h
def ZpK (ds st' : List Vl) (Q : QIt) : Prop := match ds with
  | [d, d2] => (match pyO st' d, pyO st' d2 with
    | some x, some y => (match itemsD x, itemsD y with
      | some xs, some ys => Q (zip2D xs ys) [d2, d] (fun st => pyO st d = some x ∧ pyO st d2 = some y) st'
      | _, _ => False)
    | _, _ => False)
  | _ => False
theorem s_zip {tr : DTA} (h : tr st fun ds st' => ZpK ds st' QI) : cZip2 tr st QI := h
theorem s_zipK (e1 : pyO st v = some x) (e2 : pyO st w = some y) (e3 : itemsD x = some xs) (e4 : itemsD y = some ys) (h : QI (zip2D xs ys) [w, v] (fun st => pyO st v = some x ∧ pyO st w = some y) st) : ZpK [v, w] st QI := by
  show (match pyO st v, pyO st w with
    | some x, some y => (match itemsD x, itemsD y with
      | some xs, some ys => QI (zip2D xs ys) [w, v] (fun st => pyO st v = some x ∧ pyO st w = some y) st
      | _, _ => False)
    | _, _ => False)
  rw [e1, e2]; dsimp only; rw [e3, e4]; exact h
/-! loops: what is left to be told -/
def LcK (ws : List Nat) (items : List PyData) (cond : List Vl → Prop) (g : DTG) (tt : DTT) (te : DT) (st1 : List Vl) (Q : Vl → List Vl → Prop) : Prop :=
  cond (wipeD ws st1) ∧ lcGo ws cond g tt te (fun acc st' => Q (.ow acc) (rst st1 ws st')) items [] (wipeD ws st1)
theorem s_lc {lx ws : List Nat} {ti : DTI} {g : DTG} {tt : DTT} {te : DT} (h : ti st fun items src cond st1 => srcOk lx src = true ∧ frozenAt st1 ws = true ∧ LcK ws items cond g tt te st1 Q) : cLc lx ws ti g tt te st Q := h
def FoK (items : List PyData) (cond : List Vl → Prop) (g : DTG) (tb : DTS) (D : DEnds) (st1 : List Vl) : Prop := cond st1 ∧ forGo cond g tb D items st1
theorem s_for {lx : List Nat} {ti : DTI} {g : DTG} {tb : DTS} (h : ti st fun items src cond st1 => srcOk lx src = true ∧ FoK items cond g tb D st1) : cFor lx ti g tb D st := h
theorem s_lcMap {α : Type} {ws : List Nat} {items : List PyData} {cond : List Vl → Prop} {g : DTG} {tt : DTT} {te : DT} {st1 st2 st3 : List Vl} (l : List α) (enc : α → PyData) (r : α → Option PyData) (hi : items = l.map enc) (ew : wipeD ws st1 = st2) (er : rst st1 ws st2 = st3) (hc : cond st2) (hl : l.length ≤ sizeLine)
    (step : ∀ a ∈ l, ∀ K : Option PyData → List Vl → Prop, K (r a) st2 → lcTurn ws g tt te (enc a) st2 K) (q : Q (.ow (l.filterMap r)) st3) : LcK ws items cond g tt te st1 Q := by
  subst ew er
  exact ⟨hc, lc_map l enc r hi hc hl step q⟩
def RsK (st1 : List Vl) (ws : List Nat) (st : List Vl) (Q : List Vl → Prop) : Prop := Q (rst st1 ws st)
theorem s_rs {st1 : List Vl} {ws : List Nat} {QT : List Vl → Prop} (e : rst st1 ws st = st') (h : QT st') : RsK st1 ws st QT := by subst e; exact h
theorem s_lcInv {α : Type} {ws : List Nat} {items : List PyData} {cond : List Vl → Prop} {g : DTG} {tt : DTT} {te : DT} {st1 st2 : List Vl} (l : List α) (enc : α → PyData) (I : List α → List PyData → List Vl → Prop) (hi : items = l.map enc) (ew : wipeD ws st1 = st2) (hc : cond st2) (hl : l.length ≤ sizeLine) (h0 : I l [] st2)
    (step : ∀ a l' acc st, I (a :: l') acc st → ∀ K : Option PyData → List Vl → Prop, (∀ o st', I l' (acc ++ o.toList) st' → cond st' → K o st') → lcTurn ws g tt te (enc a) st K) (fin : ∀ acc st, I [] acc st → RsK st1 ws st (Q (.ow acc))) : LcK ws items cond g tt te st1 Q := by
  subst ew hi
  refine ⟨hc, ?_⟩
  have key : ∀ (l : List α) (n : Nat) (acc : List PyData) (st : List Vl), n + l.length ≤ sizeLine → acc.length ≤ n → I l acc st → lcGo ws cond g tt te (fun acc st' => Q (.ow acc) (rst st1 ws st')) (l.map enc) acc st := by
    intro l
    induction l with
    | nil => intro n acc st _ _ h; exact fin acc st h
    | cons a l ih =>
      intro n acc st hl hn h
      rw [List.length_cons] at hl
      rw [List.map_cons, lcGo]
      refine step a l acc st h (fun o st' => match o with
        | some z => acc.length < sizeLine ∧ cond st' ∧ lcGo ws cond g tt te (fun acc st' => Q (.ow acc) (rst st1 ws st')) (l.map enc) (acc ++ [z]) st'
        | none => cond st' ∧ lcGo ws cond g tt te (fun acc st' => Q (.ow acc) (rst st1 ws st')) (l.map enc) acc st') fun o st' hI hc => ?_
      cases o with
      | none => exact ⟨hc, ih n acc st' (by omega) hn (by simpa using hI)⟩
      | some z => exact ⟨by omega, hc, ih (n + 1) (acc ++ [z]) st' (by omega) (by rw [List.length_append, List.length_singleton]; omega) hI⟩
  exact key l 0 [] _ (by simpa using hl) (Nat.le_refl _) h0
theorem s_forMap {α : Type} {items : List PyData} {cond : List Vl → Prop} {g : DTG} {tb : DTS} (l : List α) (enc : α → PyData) (I : List α → List Vl → Prop) (hi : items = l.map enc) (hc : cond st) (h : I l st)
    (step : ∀ a l' st, I (a :: l') st → ∀ K : List Vl → Prop, (∀ st', I l' st' → cond st' → K st') → g (.fr (enc a)) st fun st2 => tb { D with nx := K, ct := K, bk := D.nx } st2)
    (fin : ∀ st, I [] st → D.nx st) : FoK items cond g tb D st := ⟨hc, for_map l enc I hi h step fin⟩
theorem s_yes (h : QB true st) : cYes st QB := h
def EtK (ws : List Nat) (K : Option PyData → List Vl → Prop) (y : Vl) (st4 : List Vl) : Prop := match y with
  | .fr z => K (some z) (wipeD ws st4)
  | _ => False
theorem s_turn {ws : List Nat} {g : DTG} {tt : DTT} {te : DT} {K : Option PyData → List Vl → Prop} (h : g (.fr x) st fun st2 => tt st2 fun b st3 => BR b (te st3 fun y st4 => EtK ws K y st4) (K none (wipeD ws st3))) : lcTurn ws g tt te x st K := h
theorem s_et {ws : List Nat} {K : Option PyData → List Vl → Prop} (h : K (some x) (wipeD ws st)) : EtK ws K (.fr x) st := h
theorem s_clk {lk : List Nat} {S : VSp} {ds : List Vl} (e : okB lk 0 ds = true) (h : ClK lk S ds st Q) : okB lk 0 ds = true ∧ ClK lk S ds st Q := ⟨e, h⟩
theorem s_src {lx : List Nat} {src : List Vl} {A : Prop} (e : srcOk lx src = true) (h : A) : srcOk lx src = true ∧ A := ⟨e, h⟩
theorem s_frz2 {ws : List Nat} {A : Prop} (e : frozenAt st ws = true) (h : A) : frozenAt st ws = true ∧ A := ⟨e, h⟩
theorem s_rt {A : Prop} (e : isBo d = false) (h : A) : (∀ i, d ≠ .bor i) ∧ A := ⟨nbor e, h⟩
end
end DL

/-! The plain words of the program and of the laws, and small facts that readings share. -/
namespace DL
open PySem PySem.Spec PyProof.Rows L2
def isover (xs ys : List Int) : Bool := (xs.zip ys).all fun p => decide (p.2 ≤ p.1)
def beats (xs ys : List Int) : Bool := decide (xs ≠ ys) && isover xs ys
def unbt (ps : List (List Int)) (q : List Int) : Bool := !(ps.any fun p => beats p q)
def nums (l : List Nat) : List Int := l.map fun (n : Nat) => (n : Int)
def Pts (ps : List (List Int)) : Prop := ps.length ≤ 1000 ∧ ∀ p ∈ ps, p.length ≤ 10
theorem fmap_some {α β : Type} (f : α → β) (l : List α) : l.filterMap (fun x => some (f x)) = l.map f := by induction l <;> simp_all
theorem fmap_if {α β : Type} (c : α → Bool) (f : α → β) (l : List α) : l.filterMap (fun x => if c x = true then some (f x) else none) = (l.filter c).map f := by
  induction l with
  | nil => rfl
  | cons x l ih => cases h : c x <;> simp [h, ih]
theorem modb {x p : Int} (h : 0 < p) : 0 ≤ x % p ∧ x % p < p := ⟨Int.emod_nonneg _ (by omega), Int.emod_lt_of_pos _ h⟩
theorem rngN (n : Nat) : rng 0 (n : Int) = (List.range n).map fun (i : Nat) => .int (i : Int) := rng0 n
end DL

/-! isinstance of a def: none of the kinds of data. The rows follow the library's own facts of other kinds. -/
namespace DL
namespace FnF
open PySem
open PySem.Sem (wp)
theorem lk_class : typeLookup (.type "function") "__class__" = pure (some (.builtin "object.__class__")) := by rw [typeLookup_type, builtinLookup_eq_fast]; kernel_rfl
theorem sub_owner : isSubtype (.type "function") (.type (".".intercalate ("object.__class__".cutAt '.').dropLast)) = pure true := by
  rw [F.owner_object_class, isSubtype_type]; kernel_rfl
theorem slot_ga : Slot "function" "__getattribute__" "object.__getattribute__" :=
  .of (owner := "object") (n := "__getattribute__") (by rw [typeLookup_type, builtinLookup_eq_fast]; kernel_rfl) (by decide +kernel) (by decide +kernel) (by decide +kernel)
    (by first | exact .inl (by decide +kernel) | exact .inr (by decide +kernel)) (by rw [isSubtype_type]; kernel_rfl)
section
variable {prog : Program} {w : World} {A : Around} {E : Value → Shared → Prop} {h : Heap} {g : Array GenState} {d : Drawn} {t : Nat} {os : OsState} {a : Addr} {o : Obj}
theorem cget {R : Result → Shared → Prop} (hx : h.get? a = some o) (hc : o.cls = .type "function") (hq : R (.ok (.ret (.type "function"))) ⟨h, g, d, t, os⟩) :
    codeAny (model prog w) A (.call (.builtin "getset_descriptor.__get__") ⟨[.builtin "object.__class__", .ref a, .type "function"], []⟩) R ⟨h, g, d, t, os⟩ := by
  have hT : (⟨h, g, d, t, os⟩ : Shared).TypeIs (.ref a) "function" := ⟨_, hx, hc⟩
  have hT5 : (⟨h, g, d, t, os⟩ : Shared).TypeIs (.builtin "object.__class__") "getset_descriptor" := F.typeOf_object_class
  have f8 := sub_owner
  refine codeAny_call_builtin F.slot_gs_get.plain F.entry_gs_get (F.slot_gs_get.check _ _ _ _ _ _ _ _ hT5 (F.args_gs_get _ _ _) ?_)
  repeat (any_goals (first | assumption | wp_step))
  refine ⟨Code.quiet_builtin _ (by decide +kernel), codeAny_builtin F.entry_object_class ?_⟩
  repeat (any_goals (first | assumption | wp_step))
theorem centry {tk : Tok} {Q : Fin → Shared → Prop} (hx : h.get? a = some o) (hc : o.cls = .type "function") (hq : Q (.done (.ret (.type "function"))) ⟨h, g, d, t, os⟩) :
    wpAny (model prog w) A (Builtin.«object.__getattribute__» ⟨[.ref a, .str "__class__" tk], []⟩) Q E ⟨h, g, d, t, os⟩ := by
  have hT : (⟨h, g, d, t, os⟩ : Shared).TypeIs (.ref a) "function" := ⟨_, hx, hc⟩
  have hT5 : (⟨h, g, d, t, os⟩ : Shared).TypeIs (.builtin "object.__class__") "getset_descriptor" := F.typeOf_object_class
  have f4 := lk_class
  have f5 := F.typeOf_object_class
  have f6 := F.slot_gs_get.lookup
  have f7 := F.slot_gs_set.lookup
  repeat (any_goals (first | assumption | wp_step))
  refine cget hx hc ?_
  repeat (any_goals (first | assumption | wp_step))
theorem ccall {tk : Tok} {R : Result → Shared → Prop} (hx : h.get? a = some o) (hc : o.cls = .type "function") (hq : R (.ok (.ret (.type "function"))) ⟨h, g, d, t, os⟩) :
    codeAny (model prog w) A (.call (.builtin "object.__getattribute__") ⟨[.ref a, .str "__class__" tk], []⟩) R ⟨h, g, d, t, os⟩ :=
  codeAny_call_builtin slot_ga.plain F.entry_object_getattribute (slot_ga.check _ _ _ _ _ _ _ _ (show (⟨h, g, d, t, os⟩ : Shared).TypeIs (.ref a) "function" from ⟨_, hx, hc⟩) (F.args_object_getattribute_2 _ _) (centry hx hc hq))
theorem cby {tk : Tok} {Q : Value → Shared → Prop} (hx : h.get? a = some o) (hc : o.cls = .type "function") (hq : Q (.type "function") ⟨h, g, d, t, os⟩) : wpAny (model prog w) A (getAttrBy (.ref a) (.str "__class__" tk) false) Q E ⟨h, g, d, t, os⟩ := by
  have hT : (⟨h, g, d, t, os⟩ : Shared).TypeIs (.ref a) "function" := ⟨_, hx, hc⟩
  have f2 := slot_ga.lookup
  have f3 := slot_ga.bind (.ref a)
  repeat (any_goals (first | assumption | wp_step))
  refine ccall hx hc ?_
  repeat (any_goals (first | assumption | wp_step))
theorem cattr {Q : Option Value → Shared → Prop} (hx : h.get? a = some o) (hc : o.cls = .type "function") (hq : Q (some (.type "function")) ⟨h, g, d, t + 1, os⟩) : wpAny (model prog w) A (getAttr? (.ref a) "__class__") Q E ⟨h, g, d, t, os⟩ := by
  unfold getAttr? getAttrBy?
  repeat (any_goals (first | assumption | with_reducible apply cby hx hc | wp_step))
theorem nested {T : String} {dep : Int} {tk : Tok} {Q : Fin → Shared → Prop} (hx : h.get? a = some o) (hc : o.cls = .type "function") (hne : (Value.type "function" == Value.type T) = false) (hty : typeOf (.type T) = pure (.type "type"))
    (hsub : isSubtype (.type "function") (.type T) = pure false) (hq : Q (.done (.ret (.bool false))) ⟨h, g, d, t + 1, os⟩) :
    wpAny (model prog w) A (Builtin.«isinstance.nested» ⟨[.ref a, .type T, .int dep tk], []⟩) Q E ⟨h, g, d, t, os⟩ := by
  have hT : (⟨h, g, d, t, os⟩ : Shared).TypeIs (.ref a) "function" := ⟨_, hx, hc⟩
  repeat (any_goals (first | assumption | with_reducible apply cattr hx hc | wp_step))
end
theorem isi_false {a : Addr} {T : String} (hne : (Value.type "function" == Value.type T) = false) (hty : typeOf (.type T) = pure (.type "type")) (hsub : isSubtype (.type "function") (.type T) = pure false) :
    Meets (Builtin.«isinstance» ⟨[.ref a, .type T], []⟩) (fun _ R s => (∃ o, s.heap.get? a = some o ∧ o.cls = .type "function") ∧ R (.ok (.ret (.bool false))) { s with toks := s.toks + 1 }) :=
  fun _ _ _ _ s hs => by
    obtain ⟨h, g, d, t, os⟩ := s
    obtain ⟨⟨o, hx, hc⟩, hq⟩ := hs
    exact isinstance_outer (nested hx hc hne hty hsub hq)
def kinds : List String := ["int", "bool", "str", "tuple", "list", "dict"]
theorem isi {prog : Program} {w : World} {A : Around} {E : Value → Shared → Prop} {s : Shared} {Q : Value → Shared → Prop} {a : Addr} {o : Obj} {T : String} (hT : T ∈ kinds) (hx : s.heap.get? a = some o) (hc : o.cls = .type "function") (h : Q (.bool false) { s with toks := s.toks + 1 }) :
    wpAny (model prog w) A (call (.builtin "isinstance") [.ref a, .type T]) Q E s := by
  simp only [kinds, List.mem_cons, List.not_mem_nil, or_false] at hT
  rcases hT with rfl | rfl | rfl | rfl | rfl | rfl
  · exact call_isinstance (isi_false (by decide +kernel) F.isi_meta_int (by rw [isSubtype_type]; kernel_rfl)) ⟨⟨o, hx, hc⟩, h⟩
  · exact call_isinstance (isi_false (by decide +kernel) F.isi_meta_bool (by rw [isSubtype_type]; kernel_rfl)) ⟨⟨o, hx, hc⟩, h⟩
  · exact call_isinstance (isi_false (by decide +kernel) F.isi_meta_str (by rw [isSubtype_type]; kernel_rfl)) ⟨⟨o, hx, hc⟩, h⟩
  · exact call_isinstance (isi_false (by decide +kernel) F.isi_meta_tuple (by rw [isSubtype_type]; kernel_rfl)) ⟨⟨o, hx, hc⟩, h⟩
  · exact call_isinstance (isi_false (by decide +kernel) F.isi_meta_list (by rw [isSubtype_type]; kernel_rfl)) ⟨⟨o, hx, hc⟩, h⟩
  · exact call_isinstance (isi_false (by decide +kernel) F.isi_meta_dict (by rw [isSubtype_type]; kernel_rfl)) ⟨⟨o, hx, hc⟩, h⟩
end FnF
end DL
/-! The data layer, part 16: what is never reached; isinstance, int(..), list(range(..)), more methods. -/
namespace DL
open PySem PySem.Spec PyProof.Rows L2
/-! ### what is never reached -/
section
variable {X : Cx} {B : Ba} {lk : List Nat} {a b e e2 : Expr} {es : List Expr} {te ta tb : DT} {t : DTA} {p pos : Pos} {s : Stmt}
/-! ### isinstance -/
def rIsD (K : PySem.W.Frag) (T : String) (f : PyData → Bool) : List V → Hp → VK → Prop := fun xs H Q => ∃ v d, xs = [v, .ty T] ∧ Dq K H v d ∧ Q (.bl (f d)) H
theorem cr_isD {T : String} {f : PyData → Bool} (rule : ∀ {prog : Program} {w : World} {A : Around} {E : Value → Shared → Prop} {s : Shared} {v : Value} {d : PyData} {as : List Addr} {Q : Value → Shared → Prop}, Reads s.heap v d as →
      nd d = true → (∀ tk, s.toks ≤ tk → Q (.bool (f d)) { s with toks := tk }) → wpAny (model prog w) A (call (.builtin "isinstance") [v, .type T]) Q E s)
    (rl : ∀ {prog : Program} {w : World} {A : Around} {E : Value → Shared → Prop} {s : Shared} {a : Addr} {o : Obj} {Q : Value → Shared → Prop}, s.heap.get? a = some o → o.cls = .type "list" → (∀ tk, Q (.bool (f (.list []))) { s with toks := tk }) → wpAny (model prog w) A (call (.builtin "isinstance") [.ref a, .type T]) Q E s)
    (rt : ∀ {prog : Program} {w : World} {A : Around} {E : Value → Shared → Prop} {s : Shared} {a : Addr} {o : Obj} {Q : Value → Shared → Prop}, s.heap.get? a = some o → o.cls = .type "tuple" → (∀ tk, Q (.bool (f (.tuple []))) { s with toks := tk }) → wpAny (model prog w) A (call (.builtin "isinstance") [.ref a, .type T]) Q E s)
    (fl : ∀ ds, f (.list ds) = f (.list []) := by intro _; rfl) (ft : ∀ ds, f (.tuple ds) = f (.tuple []) := by intro _; rfl) (hT : T ∈ FnF.kinds := by decide) (hf : ∀ x : Str, f (.dict [(.str x, .none)]) = false := by intro _; rfl) (hx : ∀ ds, f (.dict [(.none, .tuple ds)]) = f (.tuple []) := by intro _; rfl) : CallR X (.builtin "isinstance") (rIsD X.K T f) := by
  intro pins s σ H vs us Q I r ⟨v, d, e, hd, q⟩
  subst e
  obtain ⟨u, c, rfl, ru, rc⟩ := r.two
  cases rc
  have fin : nd d = true → wpAny (model X.prog X.w) X.A (call (.builtin "isinstance") [u, .type T]) (EP X pins σ Q) X.xe s := fun hn => by
    obtain ⟨as, rd⟩ := Dq.reads I d v u hn hd ru
    exact rule rd hn fun tk _ => ⟨.bl (f d), H, I.tok _, rfl, q⟩
  cases hd with
  | non => exact fin rfl
  | bl b => exact fin rfl
  | int i => exact fin rfl
  | str x => exact fin rfl
  | dct h => exact fin rfl
  | lst hs _ =>
    cases ru
    obtain ⟨its, rv, ⟨o, n, ho, hc, _⟩, _⟩ := I.list hs
    exact rl ho hc fun tk => ⟨.bl _, H, I.tok _, rfl, by rw [fl] at q; exact q⟩
  | tup hs _ =>
    cases ru
    obtain ⟨its, rv, ⟨o, ho, hc, _⟩, _⟩ := I.tuple hs
    exact rt ho hc fun tk => ⟨.bl _, H, I.tok _, rfl, by rw [ft] at q; exact q⟩
  | fnv h =>
    cases ru
    obtain ⟨o, ho, hc⟩ := h
    exact FnF.isi hT (I.kIn _ _ ho) hc ⟨.bl _, H, I.tok _, rfl, by rw [hf] at q; exact q⟩
  | xtp hs _ _ =>
    cases ru
    obtain ⟨its, rv, ⟨o, ho, hc, _⟩, _⟩ := I.tuple (.inl (.inr ⟨_, hs⟩))
    exact rt ho hc fun tk => ⟨.bl _, H, I.tok _, rfl, by rw [hx] at q; exact q⟩
def gIsD (T : String) (f : PyData → Bool) : GF := fun st ds Q => match ds with
  | [d, .cst (.ty n)] => (match pyO st d with
    | some x => n = T ∧ Q (.fr (.bool (f x)))
    | _ => False)
  | _ => False
theorem gIsD_ok {K : PySem.W.Frag} {T : String} {f : PyData → Bool} : FOk K B (gIsD T f) (rIsD K T f) := fun lv st tm σ tv H ds vs Q0 Q hl R q k => by
  unfold gIsD at q
  split at q
  · rename_i d n
    match vs, hl with
    | [v, c], _ =>
      have R' : Rel K B lv st (.cst (.ty n) :: d :: tm) σ (c :: v :: tv) H := R
      obtain rfl := R'.isCst
      split at q
      · rename_i x e
        obtain ⟨rfl, q⟩ := q
        exact ⟨v, x, rfl, R'.pop.dp e, k _ _ _ q (R'.pop.pop.bl _)⟩
      · exact q.elim
  · exact q.elim
theorem de_isD {T : String} {f : PyData → Bool} (hc : CallR X (.builtin "isinstance") (rIsD X.K T f)) (hg : Gl X "isinstance") (hm : X.mg "isinstance" = none) (ha : DA X B lk (e :: es) t) (he : starEach (e :: es) X.env = (false, eval e X.env) :: starEach es X.env := by rfl)
    (hpl : (backTo pos (starEach es X.env)).any (·.1) = false := by rfl) : DE X B lk (.Call (.Name "isinstance" p) (e :: es) [] pos) (cFn (gIsD T f) t) := de_fnB hc gIsD_ok hg hm boot_isinstance ha (he := he) (hpl := hpl)
theorem is_int : CallR X (.builtin "isinstance") (rIsD X.K "int" PyData.isInt) := cr_isD (fun r _ h => PySem.W.isinstance_int_data r h) (fun hx hc h => IsiPair.list_int hx hc (h _)) (fun hx hc h => IsiPair.tuple_int hx hc (h _))
theorem is_bool : CallR X (.builtin "isinstance") (rIsD X.K "bool" PyData.isBool) := cr_isD (fun r _ h => PySem.W.isinstance_bool_data r h) (fun hx hc h => IsiPair.list_bool hx hc (h _)) (fun hx hc h => IsiPair.tuple_bool hx hc (h _))
def isTupD : PyData → Bool
  | .tuple _ => true
  | .dict [(.none, .tuple _)] => true
  | _ => false
theorem isTupD_nd : ∀ {d : PyData}, nd d = true → d.isTuple = isTupD d
  | .none, _ => rfl
  | .bool _, _ => rfl
  | .int _, _ => rfl
  | .str _, _ => rfl
  | .list _, _ => rfl
  | .tuple _, _ => rfl
  | .dict [], _ => rfl
  | .dict (_ :: _), h => by simp [nd] at h
theorem is_tuple : CallR X (.builtin "isinstance") (rIsD X.K "tuple" isTupD) := cr_isD (fun r n h => PySem.W.isinstance_tuple_data r (by rw [isTupD_nd n]; exact h)) (fun hx hc h => IsiPair.list_tuple hx hc (h _)) (fun hx hc h => IsiPair.tuple_tuple hx hc (h _))
/-- a built-in type, by its name -/
theorem de_ty {x : Str} {T : String} (hg : Gl X x) (hm : X.mg x = none) (hv : bootBuiltins x = some (.type T)) (hn : x ≠ "__name__" := by decide) (hd : (x == ("__debug__" : Str)) = false := by decide) : DE X B lk (.Name x pos) (cK (.cst (.ty T))) := de_bltn hg hm hv rfl hn hd

/-! ### list(range(..)), tuple(range(..)) -/
/-! ### pop, extend, clear, reverse -/
variable {o : Expr} {to : DT} {apos cpos : Pos}
end
end DL

/-! The data layer, part 17: int(..), max and min of a list, the steps of part 16. -/
namespace DL
open PySem PySem.Spec PyProof.Rows L2
section
variable {X : Cx} {B : Ba} {lk : List Nat} {a b e e2 : Expr} {es : List Expr} {te ta tb : DT} {t : DTA} {p pos : Pos}
end
/-! ### steps -/
section
variable {st st' : List Vl} {Q : Vl → List Vl → Prop} {QF : Vl → Prop} {i j : Nat} {m n : Int} {x y : PyData} {xs ys : List PyData} {ta tb : DT} {v w : Vl}
theorem s_isD {T : String} {f : PyData → Bool} (e1 : pyO st v = some x) (h : QF (.fr (.bool (f x)))) : gIsD T f st [v, .cst (.ty T)] QF := by
  show (match pyO st v with
    | some x => T = T ∧ QF (.fr (.bool (f x)))
    | _ => False)
  rw [e1]; exact ⟨rfl, h⟩
abbrev QR := Int → Int → List Vl → Prop
variable {R : QR}
end
end DL

/-! More plain words. -/
namespace DL
open PySem PySem.Spec PyProof.Rows L2
def withinD (x : PyData) (lo hi : Int) : Bool := match x with
  | .int i => decide (lo ≤ i) && decide (i ≤ hi)
  | _ => false
section
variable {st : List Vl} {Q : Vl → List Vl → Prop} {v : Vl} {a : Int} {xs : List PyData}
theorem atI_last {α : Type} (xs : List α) (x : α) : atI (xs ++ [x]) (-1) = some x := by
  unfold atI ixN
  rw [if_neg (by decide), if_pos (by rw [List.length_append, List.length_singleton]; omega)]
  show (xs ++ [x])[(-1 + ((xs ++ [x]).length : Int)).toNat]? = some x
  rw [List.length_append, List.length_singleton, show (-1 + ((xs.length + 1 : Nat) : Int)).toNat = xs.length by omega]
  simp
end
end DL

/-! is True, is not True of a truth. -/
namespace DL
open PySem PySem.Spec PyProof.Rows L2
section
variable {X : Cx} {B : Ba} {K : PySem.W.Frag} {lk : List Nat} {a b : Expr} {ta tb : DT} {pos : Pos}
end
end DL

/-! Layers: how many the longest row of beating has ahead of a number; peeled fronts. Plain words. -/
namespace DL
open PySem PySem.Spec PyProof.Rows L2
def bt (ps : List (List Int)) (j i : Nat) : Bool := beats (ps.getD j []) (ps.getD i [])
def sup (P : Nat → Bool) (g : Nat → Nat) : List Nat → Nat
  | [] => 0
  | x :: l => if P x = true then max (g x) (sup P g l) else sup P g l
section
variable {P P' : Nat → Bool} {g g' : Nat → Nat}
end
def layF (ps : List (List Int)) : Nat → Nat → Nat
  | 0, _ => 0
  | f + 1, i => sup (fun j => bt ps j i) (fun j => layF ps f j + 1) (List.range ps.length)
def lay (ps : List (List Int)) (i : Nat) : Nat := layF ps ps.length i
theorem getD_mem {ps : List (List Int)} {i : Nat} (h : i < ps.length) : ps.getD i [] ∈ ps := by
  rw [List.getD_eq_getElem?_getD, List.getElem?_eq_getElem h]
  exact List.getElem_mem h
section
variable {ps : List (List Int)}
def rk (ps : List (List Int)) (i : Nat) : Nat := ((List.range ps.length).filter fun j => bt ps j i).length
/-- what is left behind k times -/
def left (ps : List (List Int)) (k : Nat) : List Nat := (List.range ps.length).filter fun i => decide (k ≤ lay ps i)
/-- how many fronts there are -/
def fronts (ps : List (List Int)) : Nat := sup (fun _ => true) (fun i => lay ps i + 1) (List.range ps.length)
end
end DL

/-! sum of a list or a tuple. -/
namespace DL
open PySem PySem.Spec PyProof.Rows L2
section
variable {X : Cx} {B : Ba} {K : PySem.W.Frag} {lk : List Nat} {e : Expr} {es : List Expr} {t : DTA} {p pos : Pos}
theorem sumT_raw {prog : Program} {w : World} {A : Around} {E : Value → Shared → Prop} {s : Shared} {a : Addr} {its : List Value} {ns : List Int} {Q : Value → Shared → Prop} (hh : A.handled = none) (hl : IsTup s.heap a its.toArray) (hi : IntsAre its ns)
    (h : ∀ h' tk t', (∀ b o, s.heap.get? b = some o → h'.get? b = some o) → Q (.int ns.sum t') { s with heap := h', toks := tk }) : wpAny (model prog w) A (call (.builtin "sum") [.ref a]) Q E s := by
  obtain ⟨xs, e⟩ := hi.allInts.items
  have hn : numsOf (intItems xs).toList = ns := by rw [← e]; exact hi.numsOf
  rw [nums_intItems] at hn
  rw [e] at hl
  refine PySem.W.ktm_sumG hh hl fun h' tk t' hk => ?_
  have := h h' tk t' hk
  rw [preSum_eq, List.take_of_length_le (by simp), hn]; exact this
def rSumA (K : PySem.W.Frag) : List V → Hp → VK → Prop := fun vs H Q => ∃ (a : Addr) (ns : List Int), vs = [V.ref a] ∧ (SqL K H a (ns.map V.int) ∨ SqT K H a (ns.map V.int)) ∧ Q (.int ns.sum) H
theorem cr_sumA (hc : X.calm = true) : CallR X (.builtin "sum") (rSumA X.K) := by
  intro pins s σ H vs us Q I r h
  obtain ⟨a, ns, rfl, hs, q⟩ := h
  rw [Vals.ref1 r]
  rcases hs with hs | hs
  · obtain ⟨its, rv, hl, _⟩ := I.list hs
    exact sum_raw (I.ok.hd hc) hl.isList rv.ints fun h' tk t' hk => ⟨.int _, H, I.kept hk, ⟨_, rfl⟩, q⟩
  · obtain ⟨its, rv, hl, _⟩ := I.tuple hs
    exact sumT_raw (I.ok.hd hc) hl rv.ints fun h' tk t' hk => ⟨.int _, H, I.kept hk, ⟨_, rfl⟩, q⟩
def gSumA : List Vl → Vl → (Vl → Prop) → Prop := fun st d Q => match pyO st d with
  | some (.list xs) => ∃ ns : List Int, xs = ns.map .int ∧ Q (.fr (.int ns.sum))
  | some (.tuple xs) => ∃ ns : List Int, xs = ns.map .int ∧ Q (.fr (.int ns.sum))
  | _ => False
theorem gSumA_ok : F1Ok K B gSumA (rSumA K) := fun lv st tm σ tv H d v Q0 Q F O R q k => by
  unfold gSumA at q
  split at q
  · rename_i xs e
    obtain ⟨ns, rfl, q⟩ := q
    obtain ⟨a, vs, rfl, h, r⟩ := R.lst e
    obtain rfl := r.ints
    exact ⟨a, ns, rfl, .inl h, k _ _ _ q ⟨F, O, R.pop.push (d := .fr (.int _)) (.int _)⟩⟩
  · rename_i xs e
    obtain ⟨ns, rfl, q⟩ := q
    obtain ⟨a, vs, rfl, h, r⟩ := R.tup e
    obtain rfl := r.ints
    exact ⟨a, ns, rfl, .inr h, k _ _ _ q ⟨F, O, R.pop.push (d := .fr (.int _)) (.int _)⟩⟩
  · exact q.elim
theorem de_sumA (hc : X.calm = true) (hg : Gl X "sum") (hm : X.mg "sum" = none) (ha : DA X B lk (e :: es) t) (he : starEach (e :: es) X.env = (false, eval e X.env) :: starEach es X.env := by rfl) (hpl : (backTo pos (starEach es X.env)).any (·.1) = false := by rfl) :
    DE X B lk (.Call (.Name "sum" p) (e :: es) [] pos) (cFn (g1 gSumA) t) := de_fnB (cr_sumA hc) gSumA_ok.ok hg hm boot_sum ha (he := he) (hpl := hpl)
end
section
variable {st : List Vl} {v : Vl} {xs : List PyData} {QF : Vl → Prop}
theorem s_sumL (ns : List Int) (e1 : pyO st v = some (.list xs)) (e2 : xs = ns.map .int) (h : QF (.fr (.int ns.sum))) : gSumA st v QF := by unfold gSumA; rw [e1]; exact ⟨ns, e2, h⟩
theorem s_sumPl (ns : List Int) (h : QF (.fr (.int ns.sum))) : gSumA st (.fr (pl ns)) QF := s_sumL ns rfl rfl h
end
end DL

/-! Numbers by the sums of their points; lists of numbers told by a word. -/
namespace DL
open PySem PySem.Spec PyProof.Rows L2
theorem ptsAt {ps : List (List Int)} {i : Nat} (h : i < ps.length) : atI (ps.map pt) (i : Int) = some (pt (ps.getD i [])) := by
  apply atI_ok
  rw [List.getElem?_map, List.getD_eq_getElem?_getD, List.getElem?_eq_getElem h]
  rfl
end DL

/-! A list times a number. -/
namespace DL
open PySem PySem.Spec PyProof.Rows L2
section
variable {X : Cx} {B : Ba} {K : PySem.W.Frag} {lk : List Nat} {a b : Expr} {ta tb : DT} {pos : Pos}
end
section
variable {st : List Vl} {v w : Vl} {xs : List PyData} {Q : Vl → List Vl → Prop} {k : Int}
end
end DL

/-! Small things: ranges with their numbers, any of a made list. -/
namespace DL
open PySem PySem.Spec PyProof.Rows L2
theorem enum_range (f : Nat → PyData) : ∀ (n a k : Nat), enumD k ((List.range' a n).map f) = (List.range' a n).map fun (i : Nat) => PyData.tuple [.int ((k + (i - a) : Nat) : Int), f i]
  | 0, _, _ => rfl
  | n + 1, a, k => by
    rw [List.range'_succ, List.map_cons, enumD, enum_range f n (a + 1) (k + 1), List.map_cons]
    congr 1
    · rw [Nat.sub_self, Nat.add_zero]
    · refine List.map_congr_left fun i hi => ?_
      obtain ⟨h1, _⟩ := List.mem_range'_1.mp hi
      rw [show k + 1 + (i - (a + 1)) = k + (i - a) by omega]
theorem enum_range0 (f : Nat → PyData) (n : Nat) : enumD 0 ((List.range n).map f) = (List.range n).map fun (i : Nat) => PyData.tuple [.int (i : Nat), f i] := by
  rw [List.range_eq_range', enum_range]
  exact List.map_congr_left fun i _ => by rw [Nat.sub_zero, Nat.zero_add]
theorem all_of {α : Type} (f : α → Bool) (l : List α) : (l.map f).all id = l.all f := by
  rw [List.all_map]; rfl
end DL

/-! Layers with ups. -/
namespace DL
open PySem PySem.Spec PyProof.Rows L2
theorem dep_mapI {α : Type} (f : α → Int) (l : List α) : dep 60 (.list (l.map fun x => PyData.int (f x))) = true := by
  simp only [dep]
  rw [List.all_map]
  exact List.all_eq_true.mpr fun x _ => rfl
theorem intsAt {xs : List Int} {i : Nat} (h : i < xs.length) : atI (xs.map PyData.int) (i : Int) = some (.int (xs.getD i 0)) := by
  apply atI_ok
  rw [List.getElem?_map, List.getD_eq_getElem?_getD, List.getElem?_eq_getElem h]
  rfl
theorem map_idx {α β : Type} (d : α) (f : α → β) (xs : List α) : xs.map f = (List.range xs.length).map fun i => f (xs.getD i d) := by
  apply List.ext_getElem
  · simp
  · intro i h1 h2
    have hi : i < xs.length := by simpa using h1
    simp [List.getD_eq_getElem?_getD, List.getElem?_eq_getElem hi]
def fallN (ps : List (List Int)) (some : List Int) (i : Nat) : Bool := (List.range ps.length).all fun j => !(bt ps j i && decide (some.getD i 0 ≤ some.getD j 0))
def falls (ps : List (List Int)) (some : List Int) : Bool := (List.range ps.length).all fun i => fallN ps some i
end DL

/-! What is plain about kinds of data. -/
namespace DL
open PySem PySem.Spec PyProof.Rows L2
theorem kd_isTuple_tuple (x) : isTupD (PyData.tuple x) = true := rfl
theorem kd_isInt_int (x) : (PyData.int x).isInt = true := rfl
end DL

/-! Guards. -/
namespace DL
open PySem PySem.Spec PyProof.Rows L2
section
variable {ps : List (List Int)}
end
end DL

/-! A tuple times a number, nought and one among them; parts of tuples. -/
namespace DL
open PySem PySem.Spec PyProof.Rows L2
section
variable {X : Cx}
end
section
variable {X : Cx} {B : Ba} {K : PySem.W.Frag} {lk : List Nat} {a b : Expr} {ta tb : DT} {pos : Pos}
end
section
variable {st : List Vl} {v w : Vl} {xs : List PyData} {Q : Vl → List Vl → Prop} {k : Int}
end
/-! parts of a made list -/
end DL

/-! Spans: the nearest place ahead and behind whose point beats a place's own. -/
namespace DL
open PySem PySem.Spec PyProof.Rows L2
section
variable (ps : List (List Int)) (i : Nat)
end
theorem eqvAll_pts : ∀ (ps qs : List (List Int)), PyData.eqvAll (ps.map pt) (qs.map pt) = decide (ps = qs)
  | [], [] => by simp [PyData.eqvAll]
  | [], _ :: _ => by simp [PyData.eqvAll]
  | _ :: _, [] => by simp [PyData.eqvAll]
  | x :: xs, y :: ys => by
    rw [List.map_cons, List.map_cons, PyData.eqvAll, eqv_pt, eqvAll_pts xs ys, ← Bool.decide_and, decide_eq_decide, List.cons.injEq]
theorem eqv_pts (ps qs : List (List Int)) : PyData.eqv (pts ps) (pts qs) = decide (ps = qs) := by rw [pts, pts, PyData.eqv, eqvAll_pts]
end DL

/-! The greatest and the least of what a span is taken of. -/
namespace DL
open PySem PySem.Spec PyProof.Rows L2
end DL

/-! Lists of things that a word makes, at most so long. -/
namespace DL
open PySem PySem.Spec PyProof.Rows L2
section
variable {α : Type} {f : α → PyData} {a b : Nat} {xs ys : List PyData}
end
end DL

/-! On how many windows' fronts a place is: the counting. -/
namespace DL
open PySem PySem.Spec PyProof.Rows L2
section
variable (ps : List (List Int))
variable {ps}
end
end DL

/-! max with a default, max of a tuple. -/
namespace DL
open PySem PySem.Spec PyProof.Rows L2
section
variable {prog : Program} {w : World} {A : Around} {E : Value → Shared → Prop} {s : Shared} {a : Addr} {its : List Value} {ns : List Int} {Q : Value → Shared → Prop}
end
section
variable {X : Cx} {B : Ba} {K : PySem.W.Frag} {lk : List Nat} {e d : Expr} {es : List Expr} {t : DTA} {ta td : DT} {p pos kpos : Pos}
end
section
variable {st : List Vl} {Q : Vl → List Vl → Prop} {ta td : DT}
end
end DL

/-! Sums by leans, the greatest of them. -/
namespace DL
open PySem PySem.Spec PyProof.Rows L2
end DL

/-! list.index of whole numbers, list.reverse. -/
namespace DL
open PySem PySem.Spec PyProof.Rows L2
section
variable {X : Cx} {B : Ba} {lk : List Nat} {o e : Expr} {to te : DT} {apos cpos : Pos}
end
section
variable {st : List Vl} {Q : Vl → List Vl → Prop} {to te : DT} {d : Vl} {xs : List PyData} {k : Int}
end
/-! the longest row -/
end DL

/-! Exceptions: what a def may let out, a call that may raise, raise. -/
namespace DL
open PySem PySem.Spec PyProof.Rows L2
variable {T : List (Addr × Str)}
/-- an exception of the program in the air, over data: its class by name, the slots then -/
def WD (K : PySem.W.Frag) (mg : Str → Option Value) (B : Ba) (EX : Xn → List Vl → Prop) : WX := fun cls d σ H =>
  ∃ x lv st tm tv F O, (∀ p ∈ B.L0, p ∈ lv) ∧ RelX K B lv st tm σ tv H F O ∧ XnR K mg F H x cls d ∧ EX x st
section
variable {X : Cx} {B : Ba} {lk lk' : List Nat} {e : Expr} {es : List Expr} {t : DTA} {p pos : Pos} {x : Str} {j k n : Nat} {S : VSp} {EX : Xn → List Vl → Prop} {f : Addr} {fd : FuncData} {ps : List Str} {CX : CXT} {sp : Sp} {ta : TA}
theorem run_fnSG {pins : List (Addr × Obj)} {σ : L2.St} {H : Hp} {s : Shared} {Q : VK} {us : List Value} {vs : List V} {E : L2.St → XK} (F : FnG X.prog X.w X.K X.mg X.base CX k f fd ps sp) (hr : Room k X.A) (hgd : X.A.guards = some []) (hb : Binds X.K fd ps []) (hx : PassesAt CX X σ (E σ))
    (I : Inv X pins σ H s) (r : Vals vs us) (h : sp vs H Q (E σ)) : wpAny (model X.prog X.w) X.A (call (.ref f) us) (EP X pins σ Q) X.xe s := by
  have hl : us.length = ps.length := by rw [← r.length]; exact F.len _ _ _ _ h
  have hb' := hb s us I.kIn (by rw [List.append_nil]; exact hl)
  rw [List.append_nil] at hb'
  refine wpAny_call (codeAny_mono (F.run X.A X.stack s H ⟨us, []⟩ us vs Q (E σ) hr hgd I.env0 hb' r h) fun r s' hq => ?_)
  match r, hq with
  | .error e, hq => exact hx pins H s e s' I hq
  | .ok (.ret u), hq => exact I.after hq
  | .ok .next, hq => exact False.elim hq
  | .ok .brk, hq => exact False.elim hq
  | .ok .cont, hq => exact False.elim hq
theorem pe_callSG {E : L2.St → XK} (F : FnG X.prog X.w X.K X.mg X.base CX k f fd ps sp) (hr : Room k X.A) (hgd : X.A.guards = some []) (hg : Gl X x) (hm : X.mg x = some (.ref f)) (hk : PySem.W.keepIn X.K (.ref f) = true) (hb : Binds X.K fd ps []) (hx : ∀ σ, PassesAt CX X σ (E σ))
    (ha : PA X (e :: es) ta) (hdb : (x == ("__debug__" : Str)) = false := by decide) (he : starEach (e :: es) X.env = (false, eval e X.env) :: starEach es X.env := by rfl) (hpl : (backTo pos (starEach es X.env)).any (·.1) = false := by rfl) :
    PE X (.Call (.Name x p) (e :: es) [] pos) (tCallS sp E ta) := by
  refine ⟨fun pins s σ H Q I h => ?_⟩
  refine wpAny_Call_Name_kw (ld_glob I hg hm ?_ hdb)
  refine PySem.W.callWith_K (h₀ := X.base) I.ok.mod.kin hk (thn (ha.run pos pins s σ H _ I h) fun us s1 ⟨vs, H1, I1, r, q⟩ => ⟨I1.kIn, ?_⟩) he hpl
  exact run_fnSG F hr hgd hb (hx σ) I1 r q
/-- f(e, ..) that may raise -/
def cCallX (lk : List Nat) (S : VSp) (EX : Xn → List Vl → Prop) (t : DTA) : DT := fun st Q => t st fun ds st1 => okB lk 0 ds = true ∧ S (ds.map (res st1)) (fun r ds' => Q r (upds ds' 0 ds st1)) (fun x ds' => EX x (upds ds' 0 ds st1))
theorem call_weakX (F : FnG X.prog X.w X.K X.mg X.base CX k f fd ps (spV B.T X.K X.mg lk' n S)) (h0 : ∀ ds Q E, S ds Q E → ds.length = n) {σ : L2.St} {H : Hp} {Q : VK} (h : LE X.K B lk (cCallX lk' S EX t) σ H Q) :
    tCallS (spV B.T X.K X.mg lk' n S) (WE (WD X.K X.mg B EX)) (LA X.K B lk t) σ H Q := by
  obtain ⟨lv, st, tm, tv, Q0, L, R, h, k⟩ := h
  refine ⟨lv, st, tm, tv, _, L, R, h, fun ds st1 vs H1 q hl R1 => ?_⟩
  obtain ⟨ok, hS⟩ := q
  obtain ⟨F, O, R1⟩ := R1
  refine ⟨by rw [hl, ← List.length_map (f := res st1)]; exact h0 _ _ _ hS, F, argO ds tm.length O, ds.map (res st1), _, _, R1.pre hl ok, hS, fun r ds' v H' F' O' q1 P r1 => ?_, fun x ds' cls d H' F' O' q1 P r1 => ?_⟩
  · exact k _ _ _ _ q1 ⟨F', _, (R1.post hl ok P).push (r1.keep (fun _ f => f) (fun _ _ e _ _ => e) (fun a ea => by rw [ea]) (fun _ _ _ _ e => e))⟩
  · exact ⟨x, lv, _, tm, tv, F', _, L.2, R1.post hl ok P, r1, q1⟩
theorem de_callX (c : Def B.T X.prog X.w X.K X.mg X.base (L2.CX X.prog X.w) k x lk' n S) (tk : Takes X (WD X.K X.mg B EX)) (h0 : ∀ ds Q E, S ds Q E → ds.length = n) (hr : Room j X.A) (hgd : X.A.guards = some []) (hk : k ≤ j) (hg : Gl X x) (ha : DA X B lk (e :: es) t)
    (hdb : (x == ("__debug__" : Str)) = false := by decide) (he : starEach (e :: es) X.env = (false, eval e X.env) :: starEach es X.env := by rfl) (hpl : (backTo pos (starEach es X.env)).any (·.1) = false := by rfl) :
    DE X B lk (.Call (.Name x p) (e :: es) [] pos) (cCallX lk' S EX t) := by
  obtain ⟨f, fd, ps, hm, F, b, kp⟩ := c.ex
  exact PE.weak (pe_callSG F (hr.mono hk) hgd hg hm kp b (fun σ => passAt tk σ) ha hdb he hpl) fun _ _ _ h => call_weakX F h0 h
/-- what is known of a class of exceptions by its name -/
structure ExcG (K : PySem.W.Frag) (mg : Str → Option Value) (x : Str) : Prop where
  ex : ∃ (bmB : List Value) (Bn newId initId : String), mg x = some (.ref (He.ga K x)) ∧ ExcBaseFacts Bn newId initId bmB ∧ PySem.W.excIn K (He.ga K x) bmB newId = true ∧ PySem.W.keepIn K (.ref (He.ga K x)) = true ∧
    PySem.W.subIn K (.ref (He.ga K x)) (.type "BaseException") = some true ∧ PySem.W.typeIn K (.ref (He.ga K x)) = some (.type "type")
def cRaise (x : Str) (EX : Xn → List Vl → Prop) : DTS := fun _ st => EX ⟨x, none⟩ st
theorem ds_raise {m : Str} {i : Nat} {p2 pos2 : Pos} (G : ExcG X.K X.mg x) (hc : X.calm = true) (tk : Takes X (WD X.K X.mg B EX)) (hg : Gl X x) (hdb : (x == ("__debug__" : Str)) = false := by decide) :
    DS X B lk (.Raise (some (.Call (.Name x p) [.Constant (.str m) i p2] [] pos2)) none pos) (cRaise x EX) := by
  obtain ⟨bmB, Bn, newId, initId, hm, F, q, kC, h1, h2⟩ := G.ex
  refine PS.weak (ps_raise hc tk (pmk_own F q hm kC (raises_own h1 h2) hg hdb)) fun D σ H ⟨lv, st, tm, tv, D0, L, Bt, R, h, k⟩ => ?_
  obtain ⟨F, O, R⟩ := R
  exact ⟨⟨x, none⟩, lv, st, tm, tv, F, O, L.2, R, ⟨rfl, rfl⟩, h⟩
end
section
variable {P : Program} {w : World} {K : PySem.W.Frag} {mg : Str → Option Value} {base : Heap} {k : Nat} {x qual : Str} {params : Arguments} {body : List Stmt} {scope : Scope} {dvs : List V} {kws : List (Str × V)} {f : Addr} {fd : FuncData}
/-- a def that may raise, from its body and reading -/
theorem def_runX {N ps : List Str} {lk : List Nat} {n : Nat} {S : VSp} (F : FunD K x qual params body scope dvs kws f fd) (Sc : FnScope N ps scope) (hn : ps.length = n) (hN : n ≤ N.length)
    (t : (Xn → List Vl → Prop) → DTS) (hbody : ∀ (cdv : Value) (A : Around) (outer : List Env) (s : Shared) (H : Hp) (E : XK) (B : Ba) (EX : Xn → List Vl → Prop), Room k (A.deeper (envOfC qual scope s.heap.objs.size f cdv)) → A.guards = some [] →
      Takes (cxOf (L2.CX P w) P w K mg base N qual scope f cdv A outer s H E) (WD K mg (B.wT T) EX) → PassesOwn (model P w) (cxOf (L2.CX P w) P w K mg base N qual scope f cdv A outer s H E).A (cxOf (L2.CX P w) P w K mg base N qual scope f cdv A outer s H E).env (cxOf (L2.CX P w) P w K mg base N qual scope f cdv A outer s H E).xe →
      DSs (cxOf (L2.CX P w) P w K mg base N qual scope f cdv A outer s H E) (B.wT T) lk body (t EX))
    (read : ∀ ds Q0 E0, S ds Q0 E0 → t E0 (dEnds Q0) (ds ++ List.replicate (N.length - n) .gone)) : FnG P w K mg base (L2.CX P w) (k + 1) f fd ps (spV T K mg lk n S) := by
  refine fn_ofG F Sc (fun vs H Q E h => h.1.trans hn.symm) fun cdv A outer s H vs Q E hr hgd h => ?_
  obtain ⟨hl, F0, O0, ds, Q0, E0, pre, hS, kQ, kE⟩ := h
  let B : Ba := ⟨H, fun a => O0 a ≠ none, F0, lvs lk vs, T⟩
  have tk0 : Takes (cxOf (L2.CX P w) P w K mg base N qual scope f cdv A outer s H E) (fun cls d _ H => E cls d H) := takes_of rfl rfl rfl rfl
  have weak : ∀ (lv : List (Nat × V)) (st' tm : List Vl) σ' (tv : List V) H' F' O', (∀ p ∈ lvs lk vs, p ∈ lv) → RelX K B lv st' tm σ' tv H' F' O' → RelX K B (lvs lk vs) st' tm σ' tv H' F' O' := fun lv st' tm σ' tv H' F' O' hL R' =>
    ⟨R'.len, R'.sl, R'.tp, R'.fo, R'.oh, R'.fh, R'.fr, R'.mi, R'.f0, R'.f1, fun p hp => R'.lk p (hL p hp)⟩
  -- behind the body
  have post : ∀ st' σ' (tm : List Vl) (tv : List V) H' F' O', RelX K B (lvs lk vs) st' tm σ' tv H' F' O' → Post K T F0 O0 vs H lk st' H' F' O' := fun st' σ' tm tv H' F' O' R' =>
    ⟨fun i hi d v e1 e2 => by
      rcases R'.sl i d e1 with z | ⟨u, h1, h2⟩
      · exact .inl z
      · have := R'.lk _ (lvs_of hi e2)
        rw [h1] at this
        cases this
        exact .inr h2,
    R'.fo, R'.oh, R'.fh, R'.fr, fun a w e => R'.mi a w e, R'.f0, fun a fa => by
      rcases R'.f1 a fa with z | z | z
      · exact .inl z
      · exact .inr (.inl z)
      · exact .inr (.inr z)⟩
  refine ⟨_, hbody cdv A outer s H E B E0 hr hgd (tk0.imp fun cls d σ' H' ⟨x, lv, st', tm, tv, F', O', hL, R', xr, ex⟩ => kE x st' cls d H' F' O' ex (post _ _ _ _ _ _ _ (weak _ _ _ _ _ _ _ _ hL R')) xr) (passes_of rfl), ?_⟩
  have hlen : ds.length = n := pre.len.trans hl
  have hs : ∀ i v, vs[i]? = some v → (start N vs)[i]? = some (some v) := fun i v e => by
    have hi := (List.getElem?_eq_some_iff.mp e).1
    unfold L2.start
    rw [List.getElem?_append_left (by rw [List.length_map]; exact hi), List.getElem?_map, e]; rfl
  have R : RelX K B (lvs lk vs) (ds ++ List.replicate (N.length - n) .gone) [] (start N vs) [] H F0 (fun a => (O0 a).map Sum.inl) := by
    refine ⟨?_, fun i d e => ?_, (trivial : True), fun a fa => ?_, fun a w e => ?_, pre.fh, ⟨fun a o e _ _ => e, fun a ps e _ => ⟨ps, e⟩, pre.tb⟩, fun a w e => ?_, fun a fa => fa, fun a fa => .inl fa, fun p hp => hs _ _ (lvs_in hp).2⟩
    · unfold L2.start
      rw [List.length_append, List.length_append, List.length_map, List.length_replicate, List.length_replicate, hlen, hl]
    · by_cases hi : i < ds.length
      · rw [List.getElem?_append_left hi] at e
        have hv : i < vs.length := by rw [hl, ← hlen]; exact hi
        rcases pre.av i d _ e (List.getElem?_eq_getElem hv) with z | z
        · exact .inl z
        · exact .inr ⟨_, hs i _ (List.getElem?_eq_getElem hv), z⟩
      · rw [List.getElem?_append_right (Nat.not_lt.mp hi), List.getElem?_replicate] at e
        split at e
        · cases e; exact .inl rfl
        · cases e
    · rw [pre.fo a fa]; rfl
    · obtain ⟨i, ei, _⟩ := Option.map_eq_some_iff.mp e
      exact pre.oh a i ei
    · obtain ⟨i, ei, _⟩ := Option.map_eq_some_iff.mp e
      exact .inl (show O0 a ≠ none by rw [ei]; exact fun z => nomatch z)
  refine ⟨lvs lk vs, _, [], [], dEnds Q0, ⟨fun p hp => (lvs_in hp).1, fun p hp => hp⟩, (fun i hi => absurd hi List.not_mem_nil), ⟨F0, _, R⟩, read ds Q0 E0 hS, ⟨fun st' σ' H' q ⟨F', O', R'⟩ => ?_, fun d st' v σ' H' q ⟨F', O', R'⟩ => ?_, fun _ _ _ z => z.elim, fun _ _ _ z => z.elim⟩⟩
  · exact kQ (.fr .none) st' .non H' F' O' q (post _ _ _ _ _ _ _ R') .non
  · exact kQ d st' v H' F' O' q.2 (post _ _ _ _ _ _ _ R') (R'.top q.1)
end
end DL

/-! try: .. except X as e: caught = e, where the exception is told in the heap behind it. The rows of ps_try_kept follow the library's rule for a suite whose exception is forgotten; here it is kept. -/
namespace DL
open PySem PySem.Spec PyProof.Rows L2
theorem exT_ok {P : Program} {w : World} {H : Hp} {h : Heap} {a : Addr} {cls : Value} {d : Option Addr} {oe : Obj} {vs : Array Value} (e : h.get? a = some oe) (z : Zc cls d oe) (q : oe.data = .fields vs) : ObjOk P w H h a (ExT cls d a) :=
  ⟨⟨oe, vs, e, z, q⟩, ⟨oe, e⟩, fun _ _ ⟨o, v, q, r⟩ k => ⟨o, v, k o q, r⟩⟩
section
variable {X : Cx} {pins : List (Addr × Obj)} {σ : L2.St} {H : Hp} {s : Shared}
theorem track {a : Addr} {oe : Obj} {vs : Array Value} {cls : Value} {d : Option Addr} (I : Inv X pins σ H s) (ha : s.heap.get? a = some oe) (hd : oe.data = .fields vs) (hz : Zc cls d oe) (na : H a = none) (nL : a ≠ X.env.locals)
    (hP : ∀ p ∈ X.pn ++ pins, p.1 ≠ a) (h0 : X.s_0.heap.get? a = none) : Inv X pins σ (upd H a (ExT cls d a)) s where
  ok := I.ok
  os := I.os
  bare := I.bare
  base := ⟨I.base.keep, I.base.slot, fun b o q n x => by rw [upd_ne (fun z => by rw [z, h0] at q; cases q)]; exact I.base.free b o q n x, I.base.there,
    fun b xs q => by rw [upd_ne (ne_of_none (I.base.tups b xs q) na)]; exact I.base.tups b xs q,
    fun b o u q => by rw [upd_ne (ne_of_none (I.base.frzs b o u q) na)]; exact I.base.frzs b o u q,
    fun b ps q => by
      obtain ⟨more, e⟩ := I.base.tbls b ps q
      exact ⟨more, by rw [upd_ne (ne_of_none e na)]; exact e⟩⟩
  loc := I.loc
  cell := I.cell
  free := by rw [upd_ne (fun z => nL z.symm)]; exact I.free
  freeC := fun x c e => by
    obtain ⟨v, hv⟩ := I.cell x c e
    rw [upd_ne (fun z => by
      subst z
      obtain ⟨o, e1, e2⟩ := hv
      rw [ha] at e1; cases e1
      rw [hd] at e2; cases e2)]
    exact I.freeC x c e
  pin := fun p hp => by
    obtain ⟨h1, h2, h3⟩ := I.pin p hp
    exact ⟨h1, by rw [upd_ne (hP p hp)]; exact h2, h3⟩
  hok := I.hok.laidN (fun _ _ z => z) na (exT_ok ha hz hd)
  len := I.len
theorem dropQ {a : Addr} {q : Addr × Obj} (I : Inv (X.suite a (q :: (X.pn ++ pins))) [] σ H s) : Inv (X.suite a (X.pn ++ pins)) [] σ H s :=
  ⟨I.ok.suite _ _, I.os, I.bare, I.base, I.loc, I.cell, I.free, I.freeC, fun p hp => I.pin p (by
    rcases List.mem_append.mp hp with h | h
    · exact List.mem_append_left _ (List.mem_cons_of_mem _ h)
    · exact List.mem_append_right _ h), I.hok, I.len⟩
theorem unsuiteT {a : Addr} {pn' : List (Addr × Obj)} (I : Inv (X.suite a (X.pn ++ pins)) pn' σ H s) (ok : X.Ok) : Inv X pins σ H s :=
  ⟨ok, I.os, I.bare, I.base, I.loc, I.cell, I.free, I.freeC, fun p hp => I.pin p (List.mem_append_left _ hp), I.hok, I.len⟩
end
/-- what the clause 'except x as n' wishes of an exception of the body, where the suite knows the exception -/
def wKept (K : PySem.W.Frag) (c : Value) (i : Nat) (ts : TS) (Wout : WX) (D : Ends) : WX := fun cls d σ H =>
  ∃ b, PySem.W.exmOne K cls c = some b ∧ (b = true → ∀ a, H a = none → ts { nx := fun σ' H' => D.nx (σ'.set i none) H', rt := D.rt, bk := fun σ' H' => D.bk (σ'.set i none) H', ct := fun σ' H' => D.ct (σ'.set i none) H' } (σ.set i (some (.ref a))) (upd H a (ExT cls d a))) ∧
    (b = false → Wout cls d σ H)
section
variable {X : Cx} {x n : Str} {c : Value} {i : Nat} {body suite : List Stmt} {b₀ : Stmt} {np pos pos' : Pos} {tb : WX → TS} {ts : TS} {Wout : WX}
theorem ps_try_kept (hx0 : X.ex = []) (hs : X.stack = X.env :: X.outer) (hf : X.env.frame = some X.env.locals) (hN : X.N.Nodup) (hi : X.N[i]? = some n) (hln : X.env.kindOf n = some .local) (hc : Names X x c) (tk : Takes X Wout)
    (hb : ∀ (W : WX) (pn : List (Addr × Obj)) (xe : Value → Shared → Prop), Takes (X.tr pn xe) W → PassesOwn (model X.prog X.w) X.A X.env xe → PSs (X.tr pn xe) body (tb W))
    (hsu : ∀ (a : Addr) (pn : List (Addr × Obj)), PSs (X.suite a pn) (b₀ :: suite) ts) :
    PS X (.Try body [.ExceptHandler (some (.Name x np)) (some n) (b₀ :: suite) pos'] [] [] pos) (fun D σ H => tb (wKept X.K c i ts Wout D) D σ H) := by
  refine ⟨fun pins s σ H D I h => ?_⟩
  have ok := I.ok
  have hfr : X.A.frames = some (X.env :: X.outer) := by rw [ok.frames, hs]
  have hloc : Loc X.env.scope n := .inl hln
  refine wpAny_Try_except ?_
  refine wpAny_mono ((hb (wKept X.K c i ts Wout D) (X.pn ++ pins) (fun e s₁ => wpAny (model X.prog X.w) X.A (noteFrame e X.env) (fun _ s₂ => wpAny (model X.prog X.w) X.A (setFlight e none) (fun _ s₃ =>
    wpAny (model X.prog X.w) X.A (handleBy e X.env [.ExceptHandler (some (.Name x np)) (some n) (b₀ :: suite) pos']) (SP X pins D) X.xe s₃) X.xe s₂) X.xe s₁) (fun u s' xx => ?_) PassesOwn.looking).run [] s σ H D (I.toTry _) h) (fun f s1 hsp => ?_) (fun e s1 he => he)
  · -- the catch
    obtain ⟨a, B, sI, pins', σ', H', cls, d, rfl, J', nb, up, sky, na, os, ag, b, hb1, hyes, hno⟩ := xx
    have J : Inv X pins σ' H' sI := J'.ofTry ok
    have sky' : Sky B (X.env :: X.outer) a (Zc cls d) X.env.locals s'.heap := by rw [← hs]; exact sky
    show wpAny (model X.prog X.w) X.A (noteFrame (.ref a) X.env) _ _ _
    refine Sky.land Zc.steady hfr hf sky' fun h3 fl3 up3 => ?_
    have J3 : Inv X pins σ' H' { s' with heap := h3 } := J.landed nb fl3.1 (up.trans up3) os ag
    obtain ⟨oe3, vs3, he3, hz3, hd3⟩ := fl3.there
    have notFr : ∀ {h : Heap} {o : Obj} {vs : Array Value}, h.FunFrames B (X.env :: X.outer) → h.get? a = some o → o.data = .fields vs → a ∉ L2.frs (X.env :: X.outer) := fun {h o vs} ff e dd hm => by
      obtain ⟨_, o', e', hnf⟩ := ff.mem hm
      rw [e] at e'; cases e'
      exact hnf _ dd
    have nfr := notFr fl3.2.2.1 he3 hd3
    have nL : a ≠ X.env.locals := fun z => nfr (List.mem_filterMap.mpr ⟨X.env, List.mem_cons_self, by rw [hf, z]⟩)
    have nF : a ∉ X.fs := fun hm => by
      obtain ⟨e, he, q⟩ := List.mem_filterMap.mp hm
      exact nfr (List.mem_filterMap.mpr ⟨e, List.mem_cons_of_mem _ he, q⟩)
    have S3 := J3.suite he3 hd3 na nL nF
    refine wpAny_handleBy_cons (codeAny_handlers_test ?_) (by intro q; cases q)
    have LT : PySem.W.Looks (model X.prog X.w) h3 (typeOf (.ref a)) cls := fun A Q E s k q => wpAny_typeOf_ref (k _ _ he3) (by rw [hz3.1]; exact q)
    have LM := PySem.W.exm_one (M := model X.prog X.w) (J3.kIn) LT hb1
    have test : ∀ {Q : Value → Shared → Prop} {E : Value → Shared → Prop}, Q c { s' with heap := h3 } → wpAny (model X.prog X.w) (X.A.mark (some (.ref a))) (eval (.Name x np) X.env) Q E { s' with heap := h3 } := fun {Q E} q => by
      obtain ⟨hg, hdbg, hm | ⟨hm, hv, hnn⟩⟩ := hc
      · exact ld_glob (X := X.suite a ((a, oe3) :: (X.pn ++ pins))) S3 hg hm q hdbg
      · exact ld_blt (X := X.suite a ((a, oe3) :: (X.pn ++ pins))) S3 hg hm hv q hnn hdbg
    refine test (LM.here ?_)
    cases b with
    | true =>
      refine codeAny_handlers_suite_as ?_
      refine HandSPX.lands_againZ fl3 fun h4 fl4 up4 => ?_
      have J4 : Inv X pins σ' H' { s' with heap := h4 } := J.landed nb fl4.1 ((up.trans up3).trans up4) os ag
      obtain ⟨oe4, vs4, he4, hz4, hd4⟩ := fl4.there
      have S4 := J4.suite he4 hd4 na nL nF
      refine store_ok (X := X.suite a ((a, oe4) :: (X.pn ++ pins))) (v := .ref a) S4 hN hi hloc rfl (fun s5 S5 => ?_) (.inr hln)
      have hbn : B.get? a = none := fl4.2.1
      have h0 : X.s_0.heap.get? a = none := by
        cases q : X.s_0.heap.get? a with
        | none => rfl
        | some o =>
          obtain ⟨o', e'⟩ := J.base.there a o q (by rw [hx0]; exact List.not_mem_nil)
          have := nb a o' e' (by rw [hs]; exact nfr)
          rw [hbn] at this; cases this
      have hP : ∀ p ∈ X.pn ++ pins, p.1 ≠ a := fun p hp z => by
        have := nb p.1 p.2 (J.pin p hp).1 (by rw [hs, z]; exact nfr)
        rw [z, hbn] at this; cases this
      have T5 : Inv (X.suite a (X.pn ++ pins)) [] (σ'.set i (some (.ref a))) (upd H' a (ExT cls d a)) s5 := by
        have h5 := S5.pin (a, oe4) (List.mem_append.mpr (.inl List.mem_cons_self))
        exact track (dropQ S5) h5.1 hd4 hz4 h5.2.1 nL (fun p hp => hP p (by rw [List.append_nil] at hp; exact hp)) h0
      refine wpAny_mono ((hsu a (X.pn ++ pins)).run [] s5 _ _ _ T5 (hyes rfl a na)) (fun f s6 hsp => ?_) (fun _ _ z => False.elim z)
      have end_ : ∀ {σ6 : L2.St} {H6 : Hp} {Q : Shared → Prop}, Inv (X.suite a (X.pn ++ pins)) [] σ6 H6 s6 → (∀ s7, Inv X pins (σ6.set i none) H6 s7 → Q s7) →
          wpAny (model X.prog X.w) X.A (do bindName X.env n .none; unbindBehindTheSuite X.env n pos') (fun _ s7 => Q s7) X.xe s6 := fun {σ6 H6 Q} S6 hq => gone_ok (unsuiteT S6 ok) hN hi hln hq
      cases f with
      | next =>
        obtain ⟨σ6, H6, S6, q6⟩ := hsp
        exact end_ S6 fun s7 J7 => ⟨_, _, J7, q6⟩
      | brk =>
        obtain ⟨σ6, H6, S6, q6⟩ := hsp
        exact end_ S6 fun s7 J7 => ⟨_, _, J7, q6⟩
      | cont =>
        obtain ⟨σ6, H6, S6, q6⟩ := hsp
        exact end_ S6 fun s7 J7 => ⟨_, _, J7, q6⟩
      | ret u =>
        obtain ⟨v6, σ6, H6, S6, r6, q6⟩ := hsp
        exact end_ S6 fun s7 J7 => ⟨_, _, _, J7, r6, q6⟩
    | false =>
      show wpAny _ X.A (handleBy (.ref a) X.env []) _ _ _
      refine wpAny_handleBy_nil ?_
      obtain ⟨k1, k2, k3, oe, vs, T, oT, ts', he, hz, hd, h1, hr⟩ := id fl3
      unfold PySem.passOn
      refine wpAny_bind (wpAny_field he hd h1 ?_)
      rw [if_neg (show ¬ ((Value.ref T == Value.none) = true) from by simp)]
      have fin : wpAny (model X.prog X.w) X.A (setFlight (.ref a) X.env.frame) (fun _ s4 => wpAny (model X.prog X.w) X.A (throw (.ref a) : Sem Flow) (SP X pins D) X.xe s4) X.xe { s' with heap := h3 } := by
        rw [hf]
        refine HandSPX.setFlight_upZ fl3 fun h4 hh4 up4 => wpAny_throw (tk _ _ ?_)
        exact ⟨a, B, sI, pins, σ', H', cls, d, rfl, J, nb, (up.trans up3).trans up4, .inr (.inr (by rw [hs]; exact hh4)), na, os, ag, hno rfl⟩
      first
        | exact wpAny_bind (wpAny_pure (wpAny_bind fin))
        | exact wpAny_bind fin
  · cases f with
    | next =>
      obtain ⟨σ', H', J', q⟩ := hsp
      exact wpAny_execs_nil ⟨σ', H', J'.ofTry ok, q⟩
    | brk =>
      obtain ⟨σ', H', J', q⟩ := hsp
      exact ⟨σ', H', J'.ofTry ok, q⟩
    | cont =>
      obtain ⟨σ', H', J', q⟩ := hsp
      exact ⟨σ', H', J'.ofTry ok, q⟩
    | ret u =>
      obtain ⟨v, σ', H', J', r, q⟩ := hsp
      exact ⟨v, σ', H', J'.ofTry ok, r, q⟩
end
end DL

/-! try over data; isinstance of an exception that is held. -/
namespace DL
open PySem PySem.Spec PyProof.Rows L2
/-! ### statements of the def itself: no temps, no slots locked but its own call's -/
def LS0 (K : PySem.W.Frag) (B : Ba) (lk : List Nat) (t : DTS) : TS := fun D σ H => ∃ st D0, (∀ p ∈ B.L0, p.1 ∈ lk) ∧ Rel K B B.L0 st [] σ [] H ∧ t D0 st ∧ EndsOk K B B.L0 [] [] D0 D
abbrev DS0 (X : Cx) (B : Ba) (lk : List Nat) (s : Stmt) (t : DTS) : Prop := PS X s (LS0 X.K B lk t)
abbrev DSs0 (X : Cx) (B : Ba) (lk : List Nat) (s : List Stmt) (t : DTS) : Prop := PSs X s (LS0 X.K B lk t)
theorem ls0_ls {K : PySem.W.Frag} {B : Ba} {lk : List Nat} {t : DTS} {D : Ends} {σ : L2.St} {H : Hp} (h : LS0 K B lk t D σ H) : LS K B lk t D σ H := by
  obtain ⟨st, D0, L, R, h, k⟩ := h
  exact ⟨B.L0, st, [], [], D0, ⟨L, fun p hp => hp⟩, fun i hi => absurd hi List.not_mem_nil, R, h, k⟩
section
variable {X : Cx} {B : Ba} {lk : List Nat} {s : Stmt} {rest : List Stmt} {t u : DTS}
theorem ds0_of (h : DS X B lk s t) : DS0 X B lk s t := PS.weak h fun _ _ _ q => ls0_ls q
theorem dss0_cons (h1 : DS0 X B lk s t) (h2 : DSs0 X B lk rest u) : DSs0 X B lk (s :: rest) (cSeq t u) := PSs.weak (pss_cons h1 h2) fun D σ H ⟨st, D0, L, R, h, k⟩ =>
  ⟨st, _, L, R, h, ⟨fun st' σ' H' q R' => ⟨st', D0, L, R', q, k⟩, k.rt, k.bk, k.ct⟩⟩
theorem dss0_one (h1 : DS0 X B lk s t) : DSs0 X B lk [s] t := pss_one h1
theorem dss0_nox {b : List Stmt} (h : DSs0 X.nox B lk b t) : DSs0 X B lk b t := PSs.nox h
theorem takes_nox : Takes X.nox (fun _ _ _ _ => False) := fun _ _ ⟨_, _, _, _, _, _, _, _, _, _, _, _, _, _, _, _, z⟩ => z.elim
end
/-! ### try -/
theorem RelX.wipe0 {K : PySem.W.Frag} {B : Ba} {lv : List (Nat × V)} {st : List Vl} {σ : L2.St} {H : Hp} {F : Addr → Prop} {O : Addr → Option Ow} {i : Nat} (R : RelX K B lv st [] σ [] H F O) (hl : ∀ p ∈ lv, p.1 ≠ i) : RelX K B lv (st.set i .gone) [] (σ.set i none) [] H F O := by
  refine ⟨by rw [List.length_set, List.length_set]; exact R.len, fun j d e => ?_, trivial, R.fo, R.oh, R.fh, R.fr, R.mi, R.f0, R.f1, fun p hp => by rw [List.getElem?_set_ne (Ne.symm (hl p hp))]; exact R.lk p hp⟩
  by_cases q : i = j
  · subst q
    by_cases hi : i < st.length
    · rw [List.getElem?_set_self hi] at e; cases e; exact .inl rfl
    · rw [List.getElem?_eq_none (by rw [List.length_set]; exact Nat.not_lt.mp hi)] at e; cases e
  · rw [List.getElem?_set_ne q] at e
    rw [List.getElem?_set_ne q]
    exact R.sl j d e
/-- try: .. except X as n: ..; L: the classes that the body may raise -/
def cTry (i : Nat) (L : List Str) (tb : (Xn → List Vl → Prop) → DTS) (ts : DTS) : DTS := fun D st =>
  tb (fun x st' => x.at_ = none ∧ x.cls ∈ L ∧ i < st'.length ∧ ts { nx := fun s => D.nx (s.set i .gone), rt := D.rt, bk := fun s => D.bk (s.set i .gone), ct := fun s => D.ct (s.set i .gone) } (st'.set i (.exn x.cls))) D st
section
variable {X : Cx} {B : Ba} {lk : List Nat} {x n : Str} {c : Value} {i : Nat} {body suite : List Stmt} {b₀ : Stmt} {np pos pos' : Pos} {tb : (Xn → List Vl → Prop) → DTS} {ts : DTS} {L : List Str}
theorem ds_try (hx0 : X.ex = []) (hs : X.stack = X.env :: X.outer) (hf : X.env.frame = some X.env.locals) (hN : X.N.Nodup) (hi : X.N[i]? = some n) (hln : X.env.kindOf n = some .local) (hc : Names X x c) (tk : Takes X (fun _ _ _ _ => False)) (hl : lk.contains i = false)
    (hex : ∀ x ∈ L, PySem.W.exmOne X.K (.ref (He.ga X.K x)) c = some true)
    (hb : ∀ (EX : Xn → List Vl → Prop) (pn : List (Addr × Obj)) (xe : Value → Shared → Prop), Takes (X.tr pn xe) (WD X.K X.mg B EX) → PassesOwn (model X.prog X.w) X.A X.env xe → DSs (X.tr pn xe) B lk body (tb EX))
    (hsu : ∀ (a : Addr) (pn : List (Addr × Obj)), DSs (X.suite a pn) B lk (b₀ :: suite) ts) :
    DS0 X B lk (.Try body [.ExceptHandler (some (.Name x np)) (some n) (b₀ :: suite) pos'] [] [] pos) (cTry i L tb ts) := by
  refine PS.weak (ps_try_kept (i := i) (tb := fun W D σ H => ∃ EX, (∀ cls d σ H, WD X.K X.mg B EX cls d σ H → W cls d σ H) ∧ LS X.K B lk (tb EX) D σ H) (ts := LS X.K B lk ts) hx0 hs hf hN hi hln hc tk
    (fun W pn xe tw po => ⟨fun pins s σ H D I ⟨EX, hW, h⟩ => (hb EX pn xe (tw.imp hW) po).run pins s σ H D I h⟩) hsu) fun D σ H ⟨st, D0, Lk0, R, h, k⟩ => ?_
  have hn : i ∉ lk := fun z => by rw [List.contains_iff_mem.mpr z] at hl; cases hl
  have hnl : ∀ p ∈ B.L0, p.1 ≠ i := fun p hp z => hn (z ▸ Lk0 p hp)
  refine ⟨_, fun cls d σ' H' wd => ?_, ls0_ls ⟨st, D0, Lk0, R, h, k⟩⟩
  obtain ⟨xn, lv, st', tm, tv, F, O, hL, R', ⟨hcls, hat⟩, h1, h2, h3, h4⟩ := wd
  rw [h1] at hat
  have hat' : d = none := hat
  subst hat' hcls
  refine ⟨true, hex _ h2, fun _ a ha => ?_, fun z => by cases z⟩
  have R1 : RelX X.K B B.L0 st' [] σ' [] H' F O := ⟨R'.len, R'.sl, trivial, R'.fo, R'.oh, R'.fh, R'.fr, R'.mi, R'.f0, R'.f1, fun p hp => R'.lk p (hL p hp)⟩
  have R2 : Rel X.K B B.L0 st' [.exn xn.cls] σ' [.ref a] (upd H' a (ExT (.ref (He.ga X.K xn.cls)) none a)) := ⟨F, O, (R1.new ha).push (d := .exn xn.cls) ⟨a, rfl, upd_same⟩⟩
  have R3 := R2.store (i := i) (fun j z => by cases z) h3 (fun z => absurd z List.not_mem_nil) hnl
  refine ⟨B.L0, _, [], [], _, ⟨Lk0, fun p hp => hp⟩, fun i hi => absurd hi List.not_mem_nil, R3, h4, ⟨fun s1 σ1 H1 q ⟨F1, O1, r⟩ => ?_, fun d1 s1 v1 σ1 H1 q r => k.rt _ _ _ _ _ q r, fun s1 σ1 H1 q ⟨F1, O1, r⟩ => ?_, fun s1 σ1 H1 q ⟨F1, O1, r⟩ => ?_⟩⟩
  · exact k.nx _ _ _ q ⟨F1, O1, r.wipe0 hnl⟩
  · exact k.bk _ _ _ q ⟨F1, O1, r.wipe0 hnl⟩
  · exact k.ct _ _ _ q ⟨F1, O1, r.wipe0 hnl⟩
end
/-! ### isinstance of an exception that is held -/
/-- is the class x one of c? -/
def exSub (x c : Str) : Bool := decide (x = c) || (decide (c = "PointError") || decide (c = "ValueError"))
/-- what is known of the classes L of the program's own exceptions -/
structure ExL (K : PySem.W.Frag) (mg : Str → Option Value) (L : List Str) : Prop where
  cl : ∀ x ∈ L, ExcC K (He.ga K x)
  glo : ∀ x ∈ L, mg x = some (.ref (He.ga K x))
  pr : ∀ x ∈ L, ∀ c ∈ L, PySem.W.kitOne K (.ref (He.ga K x)) (.ref (He.ga K c)) = some (exSub x c)
  ve : ∀ x ∈ L, PySem.W.kitOne K (.ref (He.ga K x)) (.type "ValueError") = some true
  ex : ∀ x ∈ L, PySem.W.exmOne K (.ref (He.ga K x)) (.ref (He.ga K "PointError")) = some true
theorem ExL.sub {K : PySem.W.Frag} {mg : Str → Option Value} {L M : List Str} (h : ExL K mg L) (s : ∀ x ∈ M, x ∈ L) : ExL K mg M :=
  ⟨fun x hx => h.cl x (s x hx), fun x hx => h.glo x (s x hx), fun x hx c hc => h.pr x (s x hx) c (s c hc), fun x hx => h.ve x (s x hx), fun x hx => h.ex x (s x hx)⟩
def rIsX (K : PySem.W.Frag) : List V → Hp → VK → Prop := fun xs H Q => ∃ (a D : Addr) (c : V) (u : Value) (b : Bool), xs = [.ref a, c] ∧ H a = some (ExT (.ref D) none a) ∧ ExcC K D ∧ ClsV c u ∧ PySem.W.kitOne K (.ref D) u = some b ∧ Q (.bl b) H
theorem inst_of {P : Program} {w : World} {H : Hp} {h : Heap} {a D : Addr} (e : ObjOk P w H h a (ExT (.ref D) none a)) : ∃ oe, PySem.W.InstAt h a oe D none := by
  obtain ⟨⟨oe, vs, e1, e2, e3⟩, _⟩ := e
  refine ⟨oe, ?_⟩
  obtain ⟨oc, od, oda, osl⟩ := oe
  obtain ⟨h1, h2⟩ := e2
  dsimp only at h1 h2 e3
  subst h1 h2 e3
  exact ⟨e1, rfl, rfl, trivial⟩
section
variable {X : Cx}
theorem call_isX : CallR X (.builtin "isinstance") (rIsX X.K) := by
  intro pins s σ H xs us Q I r h
  obtain ⟨a, D, c, u, b, rfl, ha, C, k, e, q⟩ := h
  obtain ⟨u1, u2, rfl, r1, r2⟩ := vals2 r
  have e2 := k.eq r2
  subst e2
  cases (show u1 = Value.ref a from r1)
  obtain ⟨oe, J⟩ := inst_of (I.hok a _ ha)
  exact PySem.W.kia_one (PySem.W.handS_kitx_exc C.hg C.hk C.hs C.hd C.ha C.hn C.ht C.hm) I.kIn J e (fun z => nomatch z) fun tk => ⟨.bl b, H, I.tok tk, rfl, q⟩
end
def cIsX (L : List Str) (cs : List Str) (t : DT) : DT := fun st Q => t st fun d st1 => match d with
  | .exn x => x ∈ L ∧ Q (.fr (.bool (cs.any (exSub x)))) st1
  | _ => False
section
variable {X : Cx} {B : Ba} {lk : List Nat} {e : Expr} {es : List Expr} {t : DT} {p p2 p3 pos : Pos} {c : Str} {cs L : List Str}
theorem de_isX (hL : ExL X.K X.mg L) (hm : c ∈ L) (hgc : Gl X c) (hg : Gl X "isinstance") (hmi : X.mg "isinstance" = none) (he : DE X B lk e t) (hd : (c == ("__debug__" : Str)) = false := by decide)
    (hs : starEach [e, .Name c p2] X.env = (false, eval e X.env) :: starEach [.Name c p2] X.env := by rfl) (hs2 : starEach [.Name c p2] X.env = (false, eval (.Name c p2) X.env) :: starEach [] X.env := by rfl) (hpl : (backTo pos (starEach [.Name c p2] X.env)).any (·.1) = false := by rfl) :
    DE X B lk (.Call (.Name "isinstance" p) [e, .Name c p2] [] pos) (cIsX L [c] t) :=
  PE.weak (pe_callB call_isX hg hmi boot_isinstance (pa_cons he (pa_cons (pe_glob hgc (hL.glo c hm) (show RelV (.ref (He.ga X.K c)) (.ref (He.ga X.K c)) from rfl) hd) pa_nil hs2) hs) (by decide) (by decide) hs hpl) fun σ H Q ⟨lv, st, tm, tv, Q0, L0, R, h, k⟩ => by
    refine ⟨lv, st, tm, tv, _, L0, R, h, fun d st1 v H1 q R1 => ?_⟩
    split at q
    · rename_i x
      obtain ⟨hx, q⟩ := q
      have R2 := R1.pop
      obtain ⟨F, O, R1⟩ := R1
      obtain ⟨a, rfl, ha⟩ := R1.top (d := .exn x) (fun i z => by cases z)
      refine ⟨a, _, _, _, _, rfl, ha, hL.cl x hx, .own _, hL.pr x hx c hm, ?_⟩
      rw [List.any_cons, List.any_nil, Bool.or_false] at q
      exact k _ _ _ _ q (R2.bl _)
    · exact q.elim
theorem de_isVE (hL : ExL X.K X.mg L) (hgc : Gl X "ValueError") (hmc : X.mg "ValueError" = none) (hg : Gl X "isinstance") (hmi : X.mg "isinstance" = none) (he : DE X B lk e t)
    (hs : starEach [e, .Name "ValueError" p2] X.env = (false, eval e X.env) :: starEach [.Name "ValueError" p2] X.env := by rfl) (hs2 : starEach [.Name "ValueError" p2] X.env = (false, eval (.Name "ValueError" p2) X.env) :: starEach [] X.env := by rfl) (hpl : (backTo pos (starEach [.Name "ValueError" p2] X.env)).any (·.1) = false := by rfl) :
    DE X B lk (.Call (.Name "isinstance" p) [e, .Name "ValueError" p2] [] pos) (cIsX L ["ValueError"] t) :=
  PE.weak (pe_callB call_isX hg hmi boot_isinstance (pa_cons he (pa_cons (pe_bltn hgc hmc (show bootBuiltins "ValueError" = some (.type "ValueError") from by kernel_rfl) (show RelV (.ty "ValueError") (.type "ValueError") from rfl) (by decide) (by decide)) pa_nil hs2) hs) (by decide) (by decide) hs hpl) fun σ H Q ⟨lv, st, tm, tv, Q0, L0, R, h, k⟩ => by
    refine ⟨lv, st, tm, tv, _, L0, R, h, fun d st1 v H1 q R1 => ?_⟩
    split at q
    · rename_i x
      obtain ⟨hx, q⟩ := q
      have R2 := R1.pop
      obtain ⟨F, O, R1⟩ := R1
      obtain ⟨a, rfl, ha⟩ := R1.top (d := .exn x) (fun i z => by cases z)
      refine ⟨a, _, _, _, _, rfl, ha, hL.cl x hx, .ty _, hL.ve x hx, ?_⟩
      have e : exSub x "ValueError" = true := by unfold exSub; simp
      rw [List.any_cons, List.any_nil, Bool.or_false, e] at q
      exact k _ _ _ _ q (R2.bl _)
    · exact q.elim
/-- the Bool that says it of K -/
def exB (L : List Str) (K : PySem.W.Frag) : Bool := L.all fun x =>
  decide (PySem.W.findIn K (.ref (He.ga K x)) "__getattribute__" = some (some (.builtin "BaseException.__getattribute__"))) &&
  (decide (PySem.W.findIn K (.ref (He.ga K x)) "__getattr__" = some none) &&
  (decide (PySem.W.subIn K (.ref (He.ga K x)) (.type "BaseException") = some true) &&
  (PySem.W.hasDictIn K (He.ga K x) &&
  (decide (PySem.W.findIn K (.ref (He.ga K x)) "__class__" = some (some (.builtin "object.__class__"))) &&
  (decide (PySem.W.specialIn K (.builtin "object.__class__") "__get__" = some (some (.builtin "getset_descriptor.__get__"))) &&
  (decide (PySem.W.takesIn K (.builtin "object.__class__") = some true) &&
  (decide (PySem.W.mroIn K (He.ga K x) (.type "object") = some true) &&
  (decide (PySem.W.nsIn K mainGlobals x = some (some (.ref (He.ga K x)))) &&
  (decide (PySem.W.kitOne K (.ref (He.ga K x)) (.type "ValueError") = some true) &&
  (decide (PySem.W.exmOne K (.ref (He.ga K x)) (.ref (He.ga K "PointError")) = some true) &&
  L.all fun c => decide (PySem.W.kitOne K (.ref (He.ga K x)) (.ref (He.ga K c)) = some (exSub x c))))))))))))
theorem exL_of {K : PySem.W.Frag} {h : Heap} {mg : Str → Option Value} (In : K.In h) (G : h.Ns mainGlobals mg) (hb : exB L K = true) : ExL K mg L := by
  have key : ∀ x ∈ L, _ := fun x hx => List.all_eq_true.mp hb x hx
  simp only [Bool.and_eq_true, decide_eq_true_eq] at key
  exact ⟨fun x hx => by
      obtain ⟨h1, h2, h3, h4, h5, h6, h7, h8, _⟩ := key x hx
      exact ⟨h1, h2, h3, h4, h5, h6, h7, h8⟩,
    fun x hx => by
      obtain ⟨_, _, _, _, _, _, _, _, h9, _⟩ := key x hx
      exact PySem.W.mg_of In G h9,
    fun x hx c hc => by
      obtain ⟨_, _, _, _, _, _, _, _, _, _, _, h12⟩ := key x hx
      exact of_decide_eq_true (List.all_eq_true.mp h12 c hc),
    fun x hx => by
      obtain ⟨_, _, _, _, _, _, _, _, _, h10, _⟩ := key x hx
      exact h10,
    fun x hx => by
      obtain ⟨_, _, _, _, _, _, _, _, _, _, h11, _⟩ := key x hx
      exact h11⟩
end
end DL

/-! Defs that catch: their promise; what never raises of what may; the head's facts of classes; count and index of truths; the steps. -/
namespace DL
open PySem PySem.Spec PyProof.Rows L2
variable {T : List (Addr × Str)}
section
variable {P : Program} {w : World} {K : PySem.W.Frag} {mg : Str → Option Value} {base : Heap} {CX : CXT} {k : Nat} {x qual : Str} {params : Arguments} {body : List Stmt} {scope : Scope} {dvs : List V} {kws : List (Str × V)} {f : Addr} {fd : FuncData}
theorem def_run0 {N ps : List Str} {lk : List Nat} {n : Nat} {S : VSp} (F : FunD K x qual params body scope dvs kws f fd) (Sc : FnScope N ps scope) (hn : ps.length = n) (hN : n ≤ N.length)
    (t : DTS) (hbody : ∀ (cdv : Value) (A : Around) (outer : List Env) (s : Shared) (H : Hp) (E : XK) (B : Ba), Room k (A.deeper (envOfC qual scope s.heap.objs.size f cdv)) → A.guards = some [] → DSs0 (cxOf CX P w K mg base N qual scope f cdv A outer s H E) (B.wT T) lk body t)
    (read : ∀ ds Q0 E0, S ds Q0 E0 → t (dEnds Q0) (ds ++ List.replicate (N.length - n) .gone)) : FnG P w K mg base CX (k + 1) f fd ps (spV T K mg lk n S) := by
  refine fn_ofG F Sc (fun vs H Q E h => h.1.trans hn.symm) fun cdv A outer s H vs Q E hr hgd h => ?_
  obtain ⟨hl, F0, O0, ds, Q0, E0, pre, hS, kQ, kE⟩ := h
  let B : Ba := ⟨H, fun a => O0 a ≠ none, F0, lvs lk vs, T⟩
  refine ⟨_, hbody cdv A outer s H E B hr hgd, ?_⟩
  have hlen : ds.length = n := pre.len.trans hl
  have hs : ∀ i v, vs[i]? = some v → (start N vs)[i]? = some (some v) := fun i v e => by
    have hi := (List.getElem?_eq_some_iff.mp e).1
    unfold L2.start
    rw [List.getElem?_append_left (by rw [List.length_map]; exact hi), List.getElem?_map, e]; rfl
  have R : RelX K B (lvs lk vs) (ds ++ List.replicate (N.length - n) .gone) [] (start N vs) [] H F0 (fun a => (O0 a).map Sum.inl) := by
    refine ⟨?_, fun i d e => ?_, (trivial : True), fun a fa => ?_, fun a w e => ?_, pre.fh, ⟨fun a o e _ _ => e, fun a ps e _ => ⟨ps, e⟩, pre.tb⟩, fun a w e => ?_, fun a fa => fa, fun a fa => .inl fa, fun p hp => hs _ _ (lvs_in hp).2⟩
    · unfold L2.start
      rw [List.length_append, List.length_append, List.length_map, List.length_replicate, List.length_replicate, hlen, hl]
    · by_cases hi : i < ds.length
      · rw [List.getElem?_append_left hi] at e
        have hv : i < vs.length := by rw [hl, ← hlen]; exact hi
        rcases pre.av i d _ e (List.getElem?_eq_getElem hv) with z | z
        · exact .inl z
        · exact .inr ⟨_, hs i _ (List.getElem?_eq_getElem hv), z⟩
      · rw [List.getElem?_append_right (Nat.not_lt.mp hi), List.getElem?_replicate] at e
        split at e
        · cases e; exact .inl rfl
        · cases e
    · rw [pre.fo a fa]; rfl
    · obtain ⟨i, ei, _⟩ := Option.map_eq_some_iff.mp e
      exact pre.oh a i ei
    · obtain ⟨i, ei, _⟩ := Option.map_eq_some_iff.mp e
      exact .inl (show O0 a ≠ none by rw [ei]; exact fun z => nomatch z)
  -- behind the body
  have post : ∀ st' σ' (tm : List Vl) (tv : List V) H' F' O', RelX K B (lvs lk vs) st' tm σ' tv H' F' O' → Post K T F0 O0 vs H lk st' H' F' O' := fun st' σ' tm tv H' F' O' R' =>
    ⟨fun i hi d v e1 e2 => by
      rcases R'.sl i d e1 with z | ⟨u, h1, h2⟩
      · exact .inl z
      · have := R'.lk _ (lvs_of hi e2)
        rw [h1] at this
        cases this
        exact .inr h2,
    R'.fo, R'.oh, R'.fh, R'.fr, fun a w e => R'.mi a w e, R'.f0, fun a fa => by
      rcases R'.f1 a fa with z | z | z
      · exact .inl z
      · exact .inr (.inl z)
      · exact .inr (.inr z)⟩
  refine ⟨_, dEnds Q0, fun p hp => (lvs_in hp).1, ⟨F0, _, R⟩, read ds Q0 E0 hS, ⟨fun st' σ' H' q ⟨F', O', R'⟩ => ?_, fun d st' v σ' H' q ⟨F', O', R'⟩ => ?_, fun _ _ _ z => z.elim, fun _ _ _ z => z.elim⟩⟩
  · exact kQ (.fr .none) st' .non H' F' O' q (post _ _ _ _ _ _ _ R') .non
  · exact kQ d st' v H' F' O' q.2 (post _ _ _ _ _ _ _ R') (R'.top q.1)
end
/-- a def that may raise, where its exceptions are ruled out -/
def nxS (S : VSp) : VSp := fun ds Q _ => S ds Q fun _ _ => False
theorem Def.calm {P : Program} {w : World} {K : PySem.W.Frag} {mg : Str → Option Value} {base : Heap} {k : Nat} {x : Str} {lk : List Nat} {n : Nat} {S : VSp} (d : Def T P w K mg base (L2.CX P w) k x lk n S) : Def T P w K mg base CX0 k x lk n (nxS S) := by
  obtain ⟨f, fd, ps, hm, F, b, kp⟩ := d.ex
  have key : ∀ {vs H Q E}, spV T K mg lk n (nxS S) vs H Q E → spV T K mg lk n S vs H Q (fun _ _ _ => False) := fun {vs H Q E} ⟨h1, F0, O0, ds, Q0, E0, pre, hS, kQ, kE⟩ =>
    ⟨h1, F0, O0, ds, Q0, fun _ _ => False, pre, hS, kQ, fun _ _ _ _ _ _ _ z => z.elim⟩
  refine ⟨f, fd, ps, hm, ⟨fun vs H Q E h => F.len _ _ _ _ (key h), fun A outer s H args us vs Q E hr hgd e0 hb r h => codeAny_mono (F.run A outer s H args us vs Q _ hr hgd e0 hb r (key h)) fun r s' hq => ?_⟩, b, kp⟩
  match r, hq with
  | .error e, ⟨_, _, _, _, _, _, _, _, _, _, _, _, z⟩ => exact z.elim
  | .ok (.ret u), hq => exact hq
  | .ok .next, hq => exact hq
  | .ok .brk, hq => exact hq
  | .ok .cont, hq => exact hq
/-! ### the head's facts of classes -/
/-- the class x of exceptions, by the head's fact -/
theorem excG_of {K : PySem.W.Frag} {mg : Str → Option Value} {x : Str} (hm : mg x = some (.ref (He.ga K x))) (c : (He.Fa.exc x).ok K = true) : ExcG K mg x := by
  obtain ⟨h1, h2⟩ := He.ba (show (PySem.W.excIn K (He.ga K x) He.veBase "ValueError.__new__" && (PySem.W.keepIn K (.ref (He.ga K x)) && (decide (PySem.W.subIn K (.ref (He.ga K x)) (.type "BaseException") = some true) && decide (PySem.W.typeIn K (.ref (He.ga K x)) = some (.type "type"))))) = true from c)
  obtain ⟨h3, h4⟩ := He.ba h2
  obtain ⟨h5, h6⟩ := He.ba h4
  exact ⟨_, _, _, _, hm, PySem.F.excBase_ValueError, h1, h3, of_decide_eq_true h5, of_decide_eq_true h6⟩
/-! ### count and index of truths -/
def rCntB (K : PySem.W.Frag) : V → List V → Hp → VK → Prop := fun x xs H Q => ∃ (a : Addr) (vs : List V) (ds : List PyData) (k : Bool), x = .ref a ∧ xs = [.bl k] ∧ SqL K H a vs ∧ DqAll K H vs ds ∧ ds.all Shape.bool.has = true ∧ Q (.int (countIn (.bool k) ds)) H
theorem mt_cntB {X : Cx} : MtR X "list.count" (rCntB X.K) := by
  intro pins s σ H x xs v us Q I rx rxs h
  obtain ⟨a, vs, ds, k, rfl, rfl, hs, hd, hall, q⟩ := h
  cases rx
  cases rxs with
  | cons ry rt =>
    cases rt
    cases ry
    obtain ⟨its, rv, ⟨⟨cls, dd, data, sl⟩, n, ho, hc, hdn, hd'⟩, hlen⟩ := I.list hs
    obtain ⟨as, h4⟩ := Dq.readsAll I ds _ its (ndA_of fun x hx => by
      have := List.all_eq_true.mp hall x hx
      cases x <;> first | rfl | (simp [Shape.has] at this)) hd rv
    exact count_list_bools (l := a) (vs := its) ⟨_, ho, hc, n, hd'⟩ h4 hall ⟨.int _, H, I.tok _, ⟨_, rfl⟩, q⟩
def cCntB (b : Bool) (to : DT) : DT := fun st Q => to st fun d st1 => ∃ bs : List Bool, pyO st1 d = some (.list (bs.map .bool)) ∧ Q (.fr (.int ((bs.countP (· == b) : Nat) : Int))) st1
def cIdxB (b : Bool) (to : DT) : DT := fun st Q => to st fun d st1 => ∃ (bs : List Bool) (j : Nat), pyO st1 d = some (.list (bs.map .bool)) ∧ bs[j]? = some b ∧ (∀ (m : Nat) (z : Bool), m < j → bs[m]? = some z → z ≠ b) ∧ Q (.fr (.int (j : Nat))) st1
theorem count_bools (b : Bool) : ∀ bs : List Bool, countIn (.bool b) (bs.map PyData.bool) = ((bs.countP (· == b) : Nat) : Int)
  | [] => rfl
  | c :: bs => by
    rw [List.map_cons, countIn, List.countP_cons, count_bools b bs]
    simp only [same]
    rcases Bool.eq_false_or_eq_true (c == b) with hb | hb <;> simp only [hb, Bool.false_eq_true, if_true, if_false] <;> push_cast <;> omega
theorem all_bools : ∀ bs : List Bool, (bs.map PyData.bool).all Shape.bool.has = true
  | [] => rfl
  | b :: bs => by
    rw [List.map_cons, List.all_cons, all_bools bs, Bool.and_true]; rfl
section
variable {X : Cx} {B : Ba} {lk : List Nat} {o e : Expr} {to te : DT} {apos cpos p2 : Pos} {b : Bool} {j2 : Option Str}
theorem de_countB {j2} (ho : DE X B lk o to) (hbase : attributeBase o "count" X.env (eval o X.env) = eval o X.env := by rfl)
    (hfew : ((backTo cpos (starEach [.Constant (.bool b) j2 p2] X.env)).all (fun x => !x.1) && (backToKw cpos (keywordEach [] X.env)).all (fun x => x.1.isSome)
      && decide ([Expr.Constant (.bool b) j2 p2].length + ([] : List Keyword).length + (if ([] : List Keyword).isEmpty then 0 else 1) < 30)) = true := by rfl)
    (hline : (apos.endLine == cpos.line) = true := by rfl) (hs : starEach [.Constant (.bool b) j2 p2] X.env = (false, eval (.Constant (.bool b) j2 p2) X.env) :: starEach [] X.env := by rfl) (hplain : (backTo cpos (starEach [] X.env)).any (·.1) = false := by rfl) :
    DE X B lk (.Call (.Attribute o "count" apos) [.Constant (.bool b) j2 p2] [] cpos) (cCntB b to) :=
  PE.weak (pe_bm PySem.F.plainAttrs_list PySem.F.slot_list_count PySem.F.type_list_count mt_cntB ho (pa_cons pe_bl pa_nil hs) hbase hfew hline hs hplain) fun σ H Q ⟨lv, st, tm, tv, Q0, L, R, h, k⟩ => by
    refine ⟨lv, st, tm, tv, _, L, R, h, fun d st1 v H1 q1 R1 => ?_⟩
    obtain ⟨bs, e1, q⟩ := q1
    obtain ⟨F, O, R2⟩ := R1
    obtain ⟨a, vs, rfl, h, r⟩ := R2.lst e1
    refine ⟨.inl ⟨rfl, vs, h⟩, a, vs, bs.map .bool, b, rfl, rfl, h, RpA.dp _ _ r, all_bools bs, ?_⟩
    rw [count_bools]
    exact k _ _ _ _ q ⟨F, O, R2.pop.push (d := .fr (.int _)) (.int _)⟩
theorem de_indexB {j2} (ho : DE X B lk o to) (hbase : attributeBase o "index" X.env (eval o X.env) = eval o X.env := by rfl)
    (hfew : ((backTo cpos (starEach [.Constant (.bool b) j2 p2] X.env)).all (fun x => !x.1) && (backToKw cpos (keywordEach [] X.env)).all (fun x => x.1.isSome)
      && decide ([Expr.Constant (.bool b) j2 p2].length + ([] : List Keyword).length + (if ([] : List Keyword).isEmpty then 0 else 1) < 30)) = true := by rfl)
    (hline : (apos.endLine == cpos.line) = true := by rfl) (hs : starEach [.Constant (.bool b) j2 p2] X.env = (false, eval (.Constant (.bool b) j2 p2) X.env) :: starEach [] X.env := by rfl) (hplain : (backTo cpos (starEach [] X.env)).any (·.1) = false := by rfl) :
    DE X B lk (.Call (.Attribute o "index" apos) [.Constant (.bool b) j2 p2] [] cpos) (cIdxB b to) :=
  PE.weak (pe_bm PySem.F.plainAttrs_list PySem.F.slot_list_index PySem.F.type_list_index mt_index ho (pa_cons pe_bl pa_nil hs) hbase hfew hline hs hplain) fun σ H Q ⟨lv, st, tm, tv, Q0, L, R, h, k⟩ => by
    refine ⟨lv, st, tm, tv, _, L, R, h, fun d st1 v H1 q1 R1 => ?_⟩
    obtain ⟨bs, j, e1, h1, h2, q⟩ := q1
    obtain ⟨F, O, R2⟩ := R1
    obtain ⟨a, vs, rfl, h, r⟩ := R2.lst e1
    obtain rfl := r.bools
    refine ⟨.inl ⟨rfl, _, h⟩, a, bs.map V.bl, .bl b, j, .bl b, rfl, rfl, h, rfl, by rw [List.all_map]; exact List.all_eq_true.mpr fun x _ => rfl, by rw [List.getElem?_map, h1]; rfl, by simp [eqV], fun m z' hm hz => ?_, k _ _ _ _ q ⟨F, O, R2.pop.push (d := .fr (.int _)) (.int _)⟩⟩
    rw [List.getElem?_map] at hz
    obtain ⟨z, hz2, rfl⟩ := Option.map_eq_some_iff.mp hz
    have := h2 m z hm hz2
    simp [eqV, this]
end
/-! ### the steps -/
section
variable {st st' : List Vl} {Q : Vl → List Vl → Prop} {D : DEnds} {to ta : DT} {d : Vl} {EX : Xn → List Vl → Prop} {lk : List Nat} {S : VSp} {x : Str} {L cs : List Str}
theorem s_varX (e : st[i]? = some (.exn x)) (h : Q (.exn x) st) : cVar i st Q := by unfold cVar; rw [e]; exact h
def ClX (lk : List Nat) (S : VSp) (EX : Xn → List Vl → Prop) (ds st1 : List Vl) (Q : Vl → List Vl → Prop) : Prop := S (ds.map (res st1)) (fun r ds' => UpK ds' ds st1 (Q r)) fun x ds' => UpK ds' ds st1 (EX x)
theorem s_callX {tr : DTA} (h : tr st fun ds st1 => okB lk 0 ds = true ∧ ClX lk S EX ds st1 Q) : cCallX lk S EX tr st Q := h
theorem s_clx {ds : List Vl} (e : okB lk 0 ds = true) (h : ClX lk S EX ds st Q) : okB lk 0 ds = true ∧ ClX lk S EX ds st Q := ⟨e, h⟩
theorem s_raise (h : EX ⟨x, none⟩ st) : cRaise x EX D st := h
/-- what the clause wishes -/
def TrK (i : Nat) (L : List Str) (ts : DTS) (D : DEnds) (x : Xn) (st' : List Vl) : Prop := x.at_ = none ∧ x.cls ∈ L ∧ i < st'.length ∧ ts { nx := fun s => D.nx (s.set i .gone), rt := D.rt, bk := fun s => D.bk (s.set i .gone), ct := fun s => D.ct (s.set i .gone) } (st'.set i (.exn x.cls))
theorem s_try {i : Nat} {tb : (Xn → List Vl → Prop) → DTS} {ts : DTS} (h : tb (TrK i L ts D) D st) : cTry i L tb ts D st := h
theorem s_trk {i : Nat} {ts : DTS} (hx : x ∈ L) (hi : i < st.length) (e : st.set i (.exn x) = st') (h : ts { nx := fun s => D.nx (s.set i .gone), rt := D.rt, bk := fun s => D.bk (s.set i .gone), ct := fun s => D.ct (s.set i .gone) } st') : TrK i L ts D ⟨x, none⟩ st := by
  subst e; exact ⟨rfl, hx, hi, h⟩
def IsXK (L cs : List Str) (Q : Vl → List Vl → Prop) : Vl → List Vl → Prop := fun d st1 => match d with
  | .exn x => x ∈ L ∧ Q (.fr (.bool (cs.any (exSub x)))) st1
  | _ => False
theorem s_isX {t : DT} (h : t st (IsXK L cs Q)) : cIsX L cs t st Q := h
theorem s_isXT (hx : x ∈ L) (e : cs.any (exSub x) = true) (h : Q (.fr (.bool true)) st) : IsXK L cs Q (.exn x) st := ⟨hx, by rw [e]; exact h⟩
theorem s_cntB {b : Bool} (h : to st fun d st1 => ∃ bs : List Bool, pyO st1 d = some (.list (bs.map .bool)) ∧ Q (.fr (.int ((bs.countP (· == b) : Nat) : Int))) st1) : cCntB b to st Q := h
theorem s_idxB {b : Bool} (h : to st fun d st1 => ∃ (bs : List Bool) (j : Nat), pyO st1 d = some (.list (bs.map .bool)) ∧ bs[j]? = some b ∧ (∀ (m : Nat) (z : Bool), m < j → bs[m]? = some z → z ≠ b) ∧ Q (.fr (.int (j : Nat))) st1) : cIdxB b to st Q := h
end
end DL

/-! The layer of one point more. -/
namespace DL
open PySem PySem.Spec PyProof.Rows L2
section
variable {ps : List (List Int)} {z : List Int}
end
end DL

/-! xs[lo:hi:c] of whole numbers: some list of xs's numbers. The rows of pe_slk follow the library's rule for xs[::-1]. -/
namespace DL
open PySem PySem.Spec PyProof.Rows L2
def pickI (n : Nat) (lo hi : Option Int) (c : Int) : List Nat := sliceRange (sliceBounds lo hi (some c) n).1 (sliceBounds lo hi (some c) n).2.1 (sliceBounds lo hi (some c) n).2.2
def pickV {α : Type} (xs : List α) (is : List Nat) : List α := is.filterMap fun i => xs[i]?
theorem vals_pick {xs : List V} {us : List Value} (r : Vals xs us) : ∀ is : List Nat, Vals (pickV xs is) (pickV us is)
  | [] => .nil
  | i :: is => by
    unfold pickV
    rw [List.filterMap_cons, List.filterMap_cons]
    cases e : xs[i]? with
    | none =>
      have : us[i]? = none := by
        rw [List.getElem?_eq_none_iff] at e ⊢
        rw [← r.length]; exact e
      rw [this]
      exact vals_pick r is
    | some x =>
      obtain ⟨u, h1, h2⟩ := r.get e
      rw [h1]
      exact .cons h2 (vals_pick r is)
theorem pick_arr (us : List Value) (lo hi : Option Int) (c : Int) : slicePick us.toArray lo hi (some c) = (pickV us (pickI us.length lo hi c)).toArray := by
  unfold slicePick pickV pickI
  rw [List.size_toArray]
  simp
theorem pick_len (us : List Value) (lo hi : Option Int) (c : Int) : (pickV us (pickI us.length lo hi c)).length ≤ us.length := by
  have h := slicePick_size_le us.toArray lo hi (some c)
  rw [pick_arr, List.size_toArray, List.size_toArray] at h
  exact h
def tSlk (K : PySem.W.Frag) (te : TE) (tl th : TO) (c : Int) : TE := fun σ H Q => te σ H fun x H1 => tl σ H1 fun l H2 => th σ H2 fun u H3 => ∃ a xs, x = .ref a ∧ SqL K H3 a xs ∧ ∀ p, H3 p = none → Q (.ref p) (upd H3 p (.lst (pickV xs (pickI xs.length l u c))))
section
variable {X : Cx}
theorem pe_slk {e : Expr} {lo hi : Option Expr} {te : TE} {tl th : TO} {c : Int} {k p1 p3 pos} (hc : c ≠ 0) (he : PE X e te) (hl : PO X lo tl) (hu : PO X hi th) : PE X (.Subscript e (.Slice lo hi (some (.Constant (.int c) k p1)) p3) pos) (tSlk X.K te tl th c) := by
  refine ⟨fun pins s σ H Q I h => ?_⟩
  refine Subscript_ (thn (he.run pins s σ H _ I h) fun v s1 ⟨x, H1, I1, r1, q1⟩ => ?_)
  have hst : PO X (some (.Constant (.int c) k p1)) (tPart (tC (.int c))) := po_some pe_int
  refine wpAny_Slice (thn (hl.run pins s1 σ H1 _ I1 q1) fun vl s2 ⟨l, H2, I2, pl, q2⟩ => thn (hu.run pins s2 σ H2 _ I2 q2) fun vu s3 ⟨u, H3, I3, pu, q3⟩ => ?_)
  refine thn (hst.run pins s3 σ H3 (fun o H4 => o = some c ∧ H4 = H3) I3 ⟨c, rfl, rfl, rfl⟩) fun vs s4 ⟨o, H4, I4, ps, eo, e4⟩ => ?_
  subst eo e4
  obtain ⟨a, xs, ex, hx, q⟩ := q3
  subst ex
  cases r1
  have I5 : Inv X pins σ H4 { s4 with heap := s4.heap.push { cls := .type "slice", data := .fields #[vl, vu, vs] } } := I4.kept (t' := s4.toks) fun b ob q => Heap.get?_push_of_some _ q
  obtain ⟨its, r, ht, hz⟩ := I5.list hx
  have hlen := r.length
  show wpAny (model X.prog X.w) X.A (subscriptTail e (.Slice lo hi (some (.Constant (.int c) k p1)) p3) (.ref a) (.ref s4.heap.objs.size)) (EP X pins σ Q) X.xe { s4 with heap := s4.heap.push { cls := .type "slice", data := .fields #[vl, vu, vs] } }
  refine tail_any (ops := [.ref a, .ref s4.heap.objs.size]) ht.isList.typeIs (PySem.slot_list_getitem.lookup) ?_ (by with_unfolding_all rfl)
  refine wpAny_getItem_list_slice ht.isList (Heap.IsSliceOf.new _ vl vu vs) pl pu ps (fun z => hc (Option.some.inj z)) ?_ (by rw [List.size_toArray]; omega)
  rw [pick_arr]
  have hpl := pick_len its l u c
  refine ⟨.ref _, _, I5.laid (t' := s4.toks) (o := .lst (pickV xs (pickI xs.length l u c))) (fun b ob q => Heap.get?_push_of_some _ q) (Nat.le_refl _) ?_, rfl, q _ (I5.hok.fresh (Nat.le_refl _))⟩
  have rp := vals_pick r (pickI its.length l u c)
  rw [hlen]
  exact ⟨by rw [rp.length]; omega, _, 0, rp, Heap.get?_push_size _ rfl⟩
end
theorem pick_map {α β : Type} (f : α → β) (xs : List α) : ∀ is, pickV (xs.map f) is = (pickV xs is).map f
  | [] => rfl
  | i :: is => by
    have ih := pick_map f xs is
    unfold pickV at ih ⊢
    rw [List.filterMap_cons, List.filterMap_cons, List.getElem?_map, ih]
    cases xs[i]? <;> rfl
theorem pick_mem {α : Type} {xs : List α} {is : List Nat} {z : α} (h : z ∈ pickV xs is) : z ∈ xs := by
  obtain ⟨i, _, e⟩ := List.mem_filterMap.mp h
  exact List.mem_of_getElem? e
/-- xs[lo:hi:c]: some list of xs's numbers -/
def cSlk (t : DT) (tl th : DTO) : DT := fun st Q => t st fun d st1 => tl st1 fun lo st2 => th st2 fun hi st3 => ∃ ns : List Int, pyO st3 d = some (.list (ns.map .int)) ∧ ∀ l : List Int, (∀ z ∈ l, z ∈ ns) → l.length ≤ ns.length → Q (.ow (l.map .int)) st3
section
variable {X : Cx} {B : Ba} {lk : List Nat} {e : Expr} {te : DT} {lo hi : Option Expr} {tl th : DTO} {c : Int}
theorem de_slk {k p1 p3 pos} (ht : DE X B lk e te) (hl : DO X B lk lo tl) (hh : DO X B lk hi th) (hc : c ≠ 0 := by decide) : DE X B lk (.Subscript e (.Slice lo hi (some (.Constant (.int c) k p1)) p3) pos) (cSlk te tl th) :=
  PE.weak (pe_slk hc ht hl hh) fun σ H Q ⟨lv, st, tm, tv, Q0, L, R, h, k⟩ => by
    refine ⟨lv, st, tm, tv, _, L, R, h, fun d st1 v H1 q1 R1 => ⟨lv, st1, d :: tm, v :: tv, _, L, R1, q1, fun l st2 H2 q2 R2 => ⟨lv, st2, d :: tm, v :: tv, _, L, R2, q2, fun u st3 H3 q R3 => ?_⟩⟩⟩
    obtain ⟨ns, e1, q⟩ := q
    obtain ⟨F, O, R4⟩ := R3
    obtain ⟨a, vs, rfl, h1, r⟩ := R4.lst e1
    obtain rfl := r.ints
    refine ⟨a, _, rfl, h1, fun p hp => ?_⟩
    rw [pick_map]
    refine k _ _ _ _ (q _ (fun z => pick_mem) ?_) ⟨F, _, R4.pop.newLst hp (RpA.ofInts _)⟩
    have h2 := pick_len (ns.map fun z => Value.int z default) l u c
    rw [pick_map, List.length_map, List.length_map] at h2
    rw [List.length_map]
    exact h2
end
theorem s_slk {st : List Vl} {Q : Vl → List Vl → Prop} {ta : DT} {tl th : DTO} (h : ta st fun d st1 => tl st1 fun lo st2 => th st2 fun hi st3 => ∃ ns : List Int, pyO st3 d = some (.list (ns.map .int)) ∧ ∀ l : List Int, (∀ z ∈ l, z ∈ ns) → l.length ≤ ns.length → Q (.ow (l.map .int)) st3) : cSlk ta tl th st Q := h
end DL

/-! Defs that are called where an exception is handled, too: they raise nothing, try nothing. -/
namespace DL
open PySem PySem.Spec PyProof.Rows L2
variable {T : List (Addr × Str)}
abbrev RoomW := L2H.RoomH
structure FnW (P : Program) (w : World) (K : PySem.W.Frag) (mg : Str → Option Value) (base : Heap) (CX : CXT) (k : Nat) (f : Addr) (fd : FuncData) (ps : List Str) (sp : Sp) : Prop where
  len : ∀ vs H Q E, sp vs H Q E → vs.length = ps.length
  run : ∀ (A : Around) (outer : List Env) (s : Shared) (H : Hp) (args : Args) (us : List Value) (vs : List V) (Q : VK) (E : XK), RoomW k A → A.guards = some [] → Env0 P w K mg base A outer s H → BindsTo s fd args (ps.zip us) → Vals vs us → sp vs H Q E →
    codeAny (model P w) A (.call (.ref f) args) (CR CX outer P w H s Q E) s
section
variable {P : Program} {w : World} {K : PySem.W.Frag} {mg : Str → Option Value} {base : Heap} {CX : CXT} {k : Nat} {x qual : Str} {params : Arguments} {body : List Stmt} {scope : Scope} {dvs : List V} {kws : List (Str × V)} {f : Addr} {fd : FuncData}
end
structure DefW (T : List (Addr × Str)) (P : Program) (w : World) (K : PySem.W.Frag) (mg : Str → Option Value) (base : Heap) (CX : CXT) (k : Nat) (x : Str) (lk : List Nat) (n : Nat) (S : VSp) : Prop where
  ex : ∃ f fd ps, mg x = some (.ref f) ∧ FnW P w K mg base CX k f fd ps (spV T K mg lk n S) ∧ Binds K fd ps [] ∧ PySem.W.keepIn K (.ref f) = true
section
variable {X : Cx} {B : Ba} {CX : CXT} {k j n : Nat} {f : Addr} {fd : FuncData} {ps : List Str} {sp : Sp} {E : XK} {x : Str} {p pos : Pos} {e : Expr} {es : List Expr} {ta : TA} {t : DTA} {lk lk' : List Nat} {S : VSp}
end
end DL

/-! Corners: a spot beyond a corner. -/
namespace DL
open PySem PySem.Spec PyProof.Rows L2
/-- the classes of refusals, in the laws' order -/
abbrev kinds : List Str := ["NoMeasures", "NoPoint", "NoKin", "TooMany", "NoNumber", "NoCorners", "NoDeed", "NoWindow", "NoWeights", "NoOrder", "NoRow", "NoLot", "NoTable", "NoLoss", "NoLine", "NoText"]
def kindWords : List Str := ["measures", "point", "kin", "many", "number", "corners", "deed", "window", "weights", "order", "row", "lot", "table", "loss", "line", "text"]
/-- the word of what is refused -/
def kindWord (x : Str) : Str := kindWords.getD (kinds.findIdx (· == x)) "odd"
def bitAt (i : Nat) : List Bool := (List.range 16).map (· == i)
theorem bit_count {i : Nat} (h : i < 16) : (bitAt i).countP (· == true) = 1 := by
  have : ∀ i ∈ List.range 16, (bitAt i).countP (· == true) = 1 := by decide
  exact this i (List.mem_range.mpr h)
theorem bit_at {i : Nat} (h : i < 16) : (bitAt i)[i]? = some true := by
  unfold bitAt
  rw [List.getElem?_map, List.getElem?_range h]
  simp
theorem bit_ahead {i : Nat} : ∀ (m : Nat) (z : Bool), m < i → (bitAt i)[m]? = some z → z ≠ true := fun m z hm e => by
  unfold bitAt at e
  rw [List.getElem?_map] at e
  obtain ⟨a, ea, rfl⟩ := Option.map_eq_some_iff.mp e
  obtain ⟨hl, rfl⟩ := List.getElem?_eq_some_iff.mp ea
  rw [List.getElem_range]
  simp
  omega
theorem kind_ok : ∀ x ∈ kinds, kinds.map (fun c => ([c] : List Str).any (exSub x)) = bitAt (kinds.findIdx (· == x)) ∧ kindWords[kinds.findIdx (· == x)]? = some (kindWord x) ∧ (["ValueError"] : List Str).any (exSub x) = true ∧ kinds.findIdx (· == x) < 16 := by decide +kernel
theorem kind_at {x : Str} (hx : x ∈ kinds) : ∃ i, i < 16 ∧ kinds.map (fun c => ([c] : List Str).any (exSub x)) = bitAt i ∧ kindWords[i]? = some (kindWord x) ∧ (["ValueError"] : List Str).any (exSub x) = true :=
  have h := kind_ok x hx
  ⟨_, h.2.2.2, h.1, h.2.1, h.2.2.1⟩
theorem s_isXG {st : List Vl} {Q : Vl → List Vl → Prop} {L cs : List Str} {x : Str} (hx : x ∈ L) (h : Q (.fr (.bool (cs.any (exSub x)))) st) : IsXK L cs Q (.exn x) st := ⟨hx, h⟩
theorem words_at {i : Nat} {w : Str} (h : kindWords[i]? = some w) : atI (kindWords.map PyData.str) (i : Int) = some (.str w) := atI_ok (by rw [List.getElem?_map, h]; rfl)
end DL

/-! Comprehensions that draw. Who stands for whom within a loss; the deck of the laws about losses. -/
namespace DL
open PySem PySem.Spec PyProof.Rows L2
def stands (xs ys : List Int) (v : Int) : Bool := (xs.zip ys).all fun p => decide (p.2 ≤ p.1 + v)
def lossOk (v : Int) : Bool := withinD (.int v) 0 2000000000
theorem stands_empty (l : List (Int × Int)) (v : Int) : PyData.eqv (.list ((l.filter fun p => decide (p.1 + v < p.2)).map fun _ => PyData.int 1)) (.list []) = l.all fun p => decide (p.2 ≤ p.1 + v) := by
  rw [eqv_nil, List.isEmpty_map]
  induction l with
  | nil => rfl
  | cons p l ih =>
    rw [List.all_cons, ← ih]
    simp only [List.filter_cons]
    by_cases h : p.1 + v < p.2
    · simp [h, Int.not_le.mpr h]
    · simp [h, Int.not_lt.mp h]
theorem lossOk_iff {v : Int} : lossOk v = true ↔ 0 ≤ v ∧ v ≤ 2000000000 := by
  simp only [lossOk, withinD, Bool.and_eq_true, decide_eq_true_eq]
theorem lossOk_not {v : Int} (h : v < 0 ∨ 2000000000 < v) : lossOk v = false := by
  cases e : lossOk v with
  | false => rfl
  | true => have := lossOk_iff.mp e; omega
/-- the deck: its cells, how many are drawn, the digits that are left, the turns, the salt -/
def Deck (n : Nat) (l : List PyData) : Prop := ∃ (cells : List Int) (i : Nat) (d t s : Int), l = [pl cells, .int (i : Nat), .int d, .int t, .int s] ∧ i ≤ cells.length ∧ cells.length ≤ 63 ∧ 0 ≤ d ∧ 0 ≤ t ∧ t ≤ n
theorem Deck.mono {n m : Nat} {v : List PyData} (h : Deck n v) (l : n ≤ m) : Deck m v := by
  obtain ⟨c, i, d, t, s, e, h1, h2, h3, h4, h5⟩ := h
  exact ⟨c, i, d, t, s, e, h1, h2, h3, h4, by omega⟩
/-- a whole number out of a written row -/
theorem atI_in {P : Int → Prop} {xs : List PyData} {i : Int} (ns : List Int) (e : xs = ns.map .int) (h0 : 0 ≤ i) (h : i < ns.length) (hp : ∀ x ∈ ns, P x) : ∃ p, atI xs i = some (.int p) ∧ P p := by
  subst e
  exact atI_all h0 (by rw [List.length_map]; exact h) fun d hd => by
    obtain ⟨x, hx, rfl⟩ := List.mem_map.mp hd
    exact ⟨x, rfl, hp x hx⟩
/-- a comprehension that draws k times an item from the pot in slot j -/
theorem s_lcDraw {α β : Type} {ws : List Nat} {items : List PyData} {cond : List Vl → Prop} {g : DTG} {tt : DTT} {te : DT} {st1 : List Vl} {Q : Vl → List Vl → Prop} {mk : List PyData → List Vl} {L0 : List PyData} {c : Nat} (j : Nat) (l : List α) (enc : α → PyData) (f : β → PyData) (P : Nat → List PyData → Prop) (G : β → Prop) (k : Nat)
    (hi : items = l.map enc) (e : ∀ L, (wipeD ws st1).set j (.ow L) = mk L) (e0 : (wipeD ws st1)[j]? = some (.ow L0)) (hc : ∀ L, cond (mk L)) (hl : l.length ≤ sizeLine) (hP : P c L0)
    (step : ∀ a, a ∈ l → ∀ (c' : Nat) (L : List PyData), P c' L → c' + k ≤ c + k * l.length → ∀ K : Option PyData → List Vl → Prop, (∀ (L' : List PyData) (b : β), P (c' + k) L' → G b → K (some (f b)) (mk L')) → lcTurn ws g tt te (enc a) (mk L) K)
    (fin : ∀ (L : List PyData) (bs : List β), P (c + k * l.length) L → bs.length = l.length → (∀ b ∈ bs, G b) → RsK st1 ws (mk L) (Q (.ow (bs.map f)))) : LcK ws items cond g tt te st1 Q := by
  have e1 : wipeD ws st1 = mk L0 := by
    rw [← e L0]
    refine List.ext_getElem? fun i => ?_
    by_cases q : j = i
    · subst q
      rw [List.getElem?_set_self (List.getElem?_eq_some_iff.mp e0).1, e0]
    · rw [List.getElem?_set_ne q]
  refine s_lcInv l enc (fun l' acc st => ∃ (pre : List α) (L : List PyData) (bs : List β), l = pre ++ l' ∧ P (c + k * pre.length) L ∧ bs.length = pre.length ∧ (∀ b ∈ bs, G b) ∧ acc = bs.map f ∧ st = mk L) hi e1 (hc _) hl ⟨[], L0, [], rfl, by simpa using hP, rfl, (by intro b h; cases h), rfl, rfl⟩ ?_ ?_
  · rintro a l' acc st ⟨pre, L, bs, el, hP, hb, hG, rfl, rfl⟩ K hK
    have hlen : k * l.length = k * pre.length + k + k * l'.length := by
      rw [el, List.length_append, List.length_cons, Nat.mul_add, Nat.mul_add, Nat.mul_one]
      omega
    refine step a (by rw [el]; simp) (c + k * pre.length) L hP (by omega) K fun L' b h1 h2 => hK _ _ ⟨pre ++ [a], L', bs ++ [b], by rw [el, List.append_assoc]; rfl, by rw [List.length_append, List.length_singleton, Nat.mul_add, Nat.mul_one, ← Nat.add_assoc]; exact h1, by rw [List.length_append, List.length_append, hb]; rfl, fun x hx => ?_, by rw [List.map_append]; rfl, rfl⟩ (hc _)
    rcases List.mem_append.mp hx with h | h
    · exact hG x h
    · rw [List.mem_singleton.mp h]; exact h2
  · rintro acc st ⟨pre, L, bs, el, hP, hb, hG, rfl, rfl⟩
    rw [List.append_nil] at el
    subst el
    exact fin L bs hP hb hG
theorem ixN_53 : ixN 5 3 = some 3 := rfl
end DL

/-! Rising numbers of a book; lots. -/
namespace DL
open PySem PySem.Spec PyProof.Rows L2
def rises (xs : List Int) (n : Int) : Bool := (xs.all fun x => withinD (.int x) 0 (n - 1)) && (xs.zip (xs.drop 1)).all fun p => decide (p.1 < p.2)
/-- the i-th is a number, greater than the one ahead -/
def riseAt (xs : List Int) (n : Int) (i : Nat) : Bool := decide (0 ≤ xs.getD i 0 ∧ xs.getD i 0 < n) && (decide (i = 0) || decide (xs.getD (i - 1) 0 < xs.getD i 0))
theorem rises_in {xs : List Int} {n : Int} (h : rises xs n = true) : ∀ x ∈ xs, 0 ≤ x ∧ x < n := fun x hx => by
  have := List.all_eq_true.mp (Bool.and_eq_true _ _ ▸ h).1 x hx
  simp only [withinD, Bool.and_eq_true, decide_eq_true_eq] at this
  omega
theorem rises_at (xs : List Int) (n : Int) : rises xs n = (List.range xs.length).all (riseAt xs n) := by
  rw [Bool.eq_iff_iff, List.all_eq_true]
  unfold rises
  rw [Bool.and_eq_true, List.all_eq_true, List.all_eq_true]
  constructor
  · rintro ⟨h1, h2⟩ i hi
    have hi := List.mem_range.mp hi
    have a := h1 (xs.getD i 0) (by rw [List.getD_eq_getElem?_getD, List.getElem?_eq_getElem hi]; exact List.getElem_mem hi)
    simp only [withinD, Bool.and_eq_true, decide_eq_true_eq] at a
    unfold riseAt
    simp only [Bool.and_eq_true, Bool.or_eq_true, decide_eq_true_eq]
    refine ⟨by omega, ?_⟩
    by_cases h0 : i = 0
    · exact .inl h0
    · right
      have hj : i - 1 < xs.length := by omega
      have hz : ((xs.getD (i - 1) 0), (xs.getD i 0)) ∈ xs.zip (xs.drop 1) := by
        refine List.mem_iff_getElem?.mpr ⟨i - 1, ?_⟩
        rw [List.getElem?_zip_eq_some]
        refine ⟨by simp [List.getElem?_eq_getElem hj], ?_⟩
        rw [List.getElem?_drop, show 1 + (i - 1) = i by omega]
        simp [List.getElem?_eq_getElem hi]
      exact of_decide_eq_true (h2 _ hz)
  · intro h
    refine ⟨fun x hx => ?_, fun p hp => ?_⟩
    · obtain ⟨i, hi, rfl⟩ := List.mem_iff_getElem.mp hx
      have := h i (List.mem_range.mpr hi)
      unfold riseAt at this
      simp only [Bool.and_eq_true, Bool.or_eq_true, decide_eq_true_eq, List.getD_eq_getElem?_getD, List.getElem?_eq_getElem hi, Option.getD_some] at this
      simp only [withinD, Bool.and_eq_true, decide_eq_true_eq]
      omega
    · obtain ⟨i, e⟩ := List.mem_iff_getElem?.mp hp
      rw [List.getElem?_zip_eq_some] at e
      obtain ⟨e1, e2⟩ := e
      rw [List.getElem?_drop] at e2
      have hi : 1 + i < xs.length := (List.getElem?_eq_some_iff.mp e2).1
      have := h (1 + i) (List.mem_range.mpr hi)
      unfold riseAt at this
      simp only [Bool.and_eq_true, Bool.or_eq_true, decide_eq_true_eq, List.getD_eq_getElem?_getD, e2, show 1 + i - 1 = i by omega, e1, Option.getD_some] at this
      exact decide_eq_true (this.2.resolve_left (by omega))
def covers (ps : List (List Int)) (v : Int) (xs : List Int) : Bool := ps.all fun p => xs.any fun x => stands (ps.getD x.toNat []) p v
theorem ptsAtI {ps : List (List Int)} {x : Int} (h0 : 0 ≤ x) (h : x < (ps.length : Nat)) : atI (ps.map pt) x = some (pt (ps.getD x.toNat [])) := by
  obtain ⟨k, rfl⟩ : ∃ k : Nat, x = (k : Int) := ⟨x.toNat, by omega⟩
  exact ptsAt (by omega)
theorem getD_memI {ps : List (List Int)} {x : Int} (h0 : 0 ≤ x) (h : x < (ps.length : Nat)) : ps.getD x.toNat [] ∈ ps := getD_mem (by omega)
/-- none is met -/
theorem met_empty {α : Type} (l : List α) (c : α → Bool) : PyData.eqv (.list ((l.filter c).map fun _ => PyData.int 1)) (.list []) = !l.any c := by
  rw [eqv_nil, List.isEmpty_map]
  induction l with
  | nil => rfl
  | cons p l ih =>
    rw [List.any_cons, List.filter_cons]
    cases c p with
    | true => rfl
    | false => rw [if_neg Bool.false_ne_true, ih, Bool.false_or]
theorem met_nil {α : Type} {l : List α} {c : α → Bool} (h : ((l.filter c).map fun _ => PyData.int 1) = []) : l.any c = false := by
  have := met_empty l c
  rw [h] at this
  cases e : l.any c with
  | false => rfl
  | true =>
    rw [e] at this
    exact absurd this (by decide)
theorem met_some {α : Type} {l : List α} {c : α → Bool} (h : ((l.filter c).map fun _ => PyData.int 1) ≠ []) : l.any c = true := by
  cases e : l.any c with
  | true => rfl
  | false =>
    refine absurd ?_ h
    rw [List.map_eq_nil_iff, List.filter_eq_nil_iff]
    intro a ha hc
    rw [List.any_eq_false] at e
    exact e a ha hc
theorem enum_ints (xs : List Int) : enumD 0 (xs.map .int) = (List.range xs.length).map fun (i : Nat) => .tuple [.int (i : Nat), .int (xs.getD i 0)] := by
  rw [map_idx 0 PyData.int xs]
  exact enum_range0 _ _
/-! ### witnesses -/
def aparts (ps : List (List Int)) (v : Int) (xs : List Int) : Bool := ps.all fun p => decide ((xs.filter fun x => stands p (ps.getD x.toNat []) v).length < 2)
theorem stands_self (xs : List Int) {v : Int} (h : 0 ≤ v) : stands xs xs v = true := by
  unfold stands
  rw [List.all_eq_true]
  intro p hp
  have : p.1 = p.2 := by
    induction xs with
    | nil => cases hp
    | cons x xs ih =>
      rw [List.zip_cons_cons] at hp
      rcases List.mem_cons.mp hp with rfl | h
      · rfl
      · exact ih h
  rw [this]
  exact decide_eq_true (by omega)
theorem s_srtI {st : List Vl} {v : Vl} {QF : Vl → Prop} (xs : List Int) (e1 : pyO st v = some (.list (xs.map .int))) (h : QF (.ow ((xs.mergeSort fun a b => decide (a ≤ b)).map .int))) : gSrt st v QF :=
  s_srt e1 (alike_ints' xs) (sortable_ints xs) (dep_ints _ xs) (by rw [sort_ints]; exact h)
theorem getD2 {p : List Int} (h : p.length = 2) : p = [p.getD 0 0, p.getD 1 0] := by
  match p, h with
  | [a, b], _ => rfl
end DL

/-! Books with bounded numbers; books joined, numbers chosen. -/
namespace DL
open PySem PySem.Spec PyProof.Rows L2
/-- what a thing's text takes -/
structure Sh (n : Nat) (d : PyData) : Prop where
  ok : d.showable = true
  len : d.shown.length ≤ n
/-! ### rising numbers by what they hold -/
end DL

/-! Lists of numbers that may follow one another, counted. -/
namespace DL
open PySem PySem.Spec PyProof.Rows L2
/-- how many lists of k more numbers go on from each -/
def gon (fo : List (List Nat)) : Nat → List Nat
  | 0 => List.replicate fo.length 1
  | k + 1 => fo.map fun s => (s.map fun j => (gon fo k).getD j 0).sum
/-- a graph without rounds -/
structure Fo (fo : List (List Nat)) : Prop where
  len : fo.length ≤ 1000
  small : ∀ s ∈ fo, s.length ≤ 1000
  inn : ∀ s ∈ fo, ∀ j ∈ s, j < fo.length
  ranked : ∃ r : Nat → Nat, (∀ i, r i ≤ 1000) ∧ ∀ i s, fo[i]? = some s → ∀ j ∈ s, r j < r i
section
variable {fo : List (List Nat)}
theorem gon_zero (r : Nat → Nat) (hr : ∀ i s, fo[i]? = some s → ∀ j ∈ s, r j < r i) : ∀ k i, r i < k → (gon fo k).getD i 0 = 0
  | 0, _, h => absurd h (Nat.not_lt_zero _)
  | k + 1, i, h => by
    rw [gon, List.getD_eq_getElem?_getD, List.getElem?_map]
    cases e : fo[i]? with
    | none => rfl
    | some s =>
      show (s.map fun j => (gon fo k).getD j 0).sum = 0
      have : ∀ j ∈ s, (gon fo k).getD j 0 = 0 := fun j hj => gon_zero r hr k j (by have := hr i s e j hj; omega)
      rw [List.map_congr_left this]
      clear this e
      induction s with
      | nil => rfl
      | cons a s ih => rw [List.map_cons, List.sum_cons, ih]
theorem sum_zero_of {l : List Nat} (h : ∀ i, l.getD i 0 = 0) : l.sum = 0 := by
  induction l with
  | nil => rfl
  | cons a l ih =>
    have h0 : a = 0 := h 0
    rw [List.sum_cons, ih (fun i => h (i + 1)), h0]
theorem gon_end (F : Fo fo) : ∃ L, L ≤ 1001 ∧ (∀ k, k < L → 0 < (gon fo k).sum) ∧ (gon fo L).sum = 0 := by
  obtain ⟨r, h0, hr⟩ := F.ranked
  have hz : (gon fo 1001).sum = 0 := sum_zero_of fun i => gon_zero r hr 1001 i (by have := h0 i; omega)
  have key : ∀ n, (gon fo n).sum = 0 → ∃ L, L ≤ n ∧ (∀ k, k < L → 0 < (gon fo k).sum) ∧ (gon fo L).sum = 0 := by
    intro n
    induction n using Nat.strongRecOn with
    | _ n ih =>
      intro hn
      by_cases h : ∃ k, k < n ∧ (gon fo k).sum = 0
      · obtain ⟨k, hk, e⟩ := h
        obtain ⟨L, h1, h2, h3⟩ := ih k hk e
        exact ⟨L, by omega, h2, h3⟩
      · exact ⟨n, Nat.le_refl _, fun k hk => by
          rcases Nat.eq_zero_or_pos (gon fo k).sum with e | e
          · exact absurd ⟨k, hk, e⟩ h
          · exact e, hn⟩
  exact key _ hz
end
/-- how long the longest list is -/
noncomputable def longest (fo : List (List Nat)) (F : Fo fo) : Nat := Classical.choose (gon_end F)
/-- a place among the lists that go on from some: there is one whose share it falls into -/
theorem share {w : Nat → Nat} : ∀ (s : List Nat) (p : Nat), p < (s.map w).sum → ∃ j ∈ s, ∃ q, q < w j ∧ True
  | [], p, h => absurd h (Nat.not_lt_zero _)
  | a :: s, p, h => by
    by_cases e : p < w a
    · exact ⟨a, List.mem_cons_self, p, e, trivial⟩
    · rw [List.map_cons, List.sum_cons] at h
      obtain ⟨j, hj, q, hq, _⟩ := share (w := w) s (p - w a) (by omega)
      exact ⟨j, List.mem_cons_of_mem _ hj, q, hq, trivial⟩
/-! ### rows of beating -/
end DL

/-! t < u and t >= u of tuples of whole numbers (the rows of op_geT follow the library's rule for <=). -/
namespace DL
open PySem PySem.Spec PyProof.Rows L2
def lexGe (ns ms : List Int) : Bool := Ob.lexAt (fun j => decide (ns.getD j 0 = ms.getD j 0)) (fun j => decide (ms.getD j 0 ≤ ns.getD j 0)) (decide (ms.length ≤ ns.length)) 0 (min ns.length ms.length)
def rGeT (K : PySem.W.Frag) : R2 := fun x y H Q => ∃ (a b : Addr) (ns ms : List Int), x = .ref a ∧ y = .ref b ∧ SqT K H a (ns.map V.int) ∧ SqT K H b (ms.map V.int) ∧ Q (.bl (lexGe ns ms)) H
theorem op_geT {X : Cx} (hu : X.A.units < cLine) : OpR X (compareOp .GtE) (rGeT X.K) := by
  intro pins s σ H x y v u Q I rx ry h
  obtain ⟨a, b, ns, ms, rfl, rfl, ha, hb, q⟩ := h
  cases rx
  cases ry
  obtain ⟨its, r1, p1, _⟩ := I.tuple ha
  obtain ⟨its2, r2, p2, _⟩ := I.tuple hb
  have i1 : IntsAre its ns := Vals.ints r1
  have i2 : IntsAre its2 ms := Vals.ints r2
  have e1 : its.toArray.size = ns.length := by rw [List.size_toArray]; exact i1.length
  have e2 : its2.toArray.size = ms.length := by rw [List.size_toArray]; exact i2.length
  have at1 : ∀ j (h1 : j < its.toArray.size), ∃ t, its.toArray[j] = .int (ns.getD j 0) t := fun j h1 => PyProof.Rows.IntsAre.int_at i1 _ _ (by simp at h1; simp [h1])
  have at2 : ∀ j (h1 : j < its2.toArray.size), ∃ t, its2.toArray[j] = .int (ms.getD j 0) t := fun j h1 => PyProof.Rows.IntsAre.int_at i2 _ _ (by simp at h1; simp [h1])
  have R := Ob.RcOp.tuples_ge (A := X.A) (s := s) (e := fun j => decide (ns.getD j 0 = ms.getD j 0)) (r := fun j => decide (ms.getD j 0 ≤ ns.getD j 0)) p1 p2 hu (fun j h1 h2 => by
    obtain ⟨t, et⟩ := at1 j h1
    obtain ⟨t', et'⟩ := at2 j h2
    rw [et, et']
    have z : (ns.getD j 0 == ms.getD j 0) = decide (ns.getD j 0 = ms.getD j 0) := by
      by_cases q : ns.getD j 0 = ms.getD j 0
      · rw [decide_eq_true q]; exact beq_iff_eq.mpr q
      · rw [decide_eq_false q]; exact beq_eq_false_iff_ne.mpr q
    rw [← z]
    exact SeqAt.EqAt.int_int _ _ _ _) (fun j h1 h2 _ => by
    obtain ⟨t, et⟩ := at1 j h1
    obtain ⟨t', et'⟩ := at2 j h2
    rw [et, et']
    exact Ob.RcOp.ge_int _ _ _ _)
  rw [e1, e2] at R
  have z : wpAny (model X.prog X.w) X.A (compareOp .GtE (.ref a) (.ref b)) (EP X pins σ Q) X.xe s := R X.prog X.w X.xe (EP X pins σ Q) ⟨.bl _, H, I, rfl, q⟩
  exact z
section
variable {K : PySem.W.Frag} {X : Cx} {B : Ba} {lk : List Nat} {a b : Expr} {ta tb : DT} {pos : Pos}
end
end DL

/-! Lots apart along the stair of two measures. -/
namespace DL
open PySem PySem.Spec PyProof.Rows L2
abbrev py (ps : List (List Int)) (i : Nat) : Int := (ps.getD i []).getD 1 0
section
variable {ps : List (List Int)}
end
end DL

/-! sorted of a tuple (the rows follow the library's rules for a list). -/
namespace DL
open PySem PySem.Spec PyProof.Rows PySem.Calls L2
section
variable {prog : Program} {w : World} {A : Around} {E : Value → Shared → Prop} {s : Shared} {vs : List Value}
end
section
variable {X : Cx} {B : Ba} {lk : List Nat} {e : Expr} {es : List Expr} {t : DTA} {p pos : Pos}
end
end DL

/-! A word looked up in a display of texts; how two points stand, as a word. -/
namespace DL
open PySem PySem.Spec PyProof.Rows L2
section
variable {X : Cx} {B : Ba} {lk : List Nat} {i : Expr} {ti : DT} {pos pos' : Pos}
end

/-! ### how two points stand, as a word -/
def wordH (p q : List Int) : Str := if p = q then "like" else if isover p q = true then "beats" else if isover q p = true then "beaten" else "apart"
abbrev TT : List (Str × Str) := [("beats", "beaten"), ("beaten", "beats"), ("like", "like"), ("apart", "apart")]
def wr (ps : List (List Int)) (p : List Int) : List PyData := ps.map fun q => .str (wordH p q)
end DL

/-! min with a default; a walk over reversed(tuple). -/
namespace DL
open PySem PySem.Spec PyProof.Rows L2
section
variable {prog : Program} {w : World} {A : Around} {E : Value → Shared → Prop} {s : Shared} {a : Addr} {its : List Value} {ns : List Int} {Q : Value → Shared → Prop}
end
section
variable {X : Cx} {B : Ba} {K : PySem.W.Frag} {lk : List Nat} {e d : Expr} {es : List Expr} {t : DTA} {ta td : DT} {p pos kpos : Pos}
end
section
variable {st : List Vl} {Q : Vl → List Vl → Prop} {ta td : DT}
end
/-! ### reversed(a tuple) -/
open RT
section
variable {K : PySem.W.Frag} {B : Ba} {d : Vl}
end
section
variable {X : Cx} {B : Ba} {lk : List Nat} {tg e : Expr} {te : DT} {p pos : Pos}
end
end DL

/-! sorted of pairs (tuple of numbers, number); orders of measures. -/
namespace DL
open PySem PySem.Spec PyProof.Rows L2
/-! ### orders of measures -/
def tk (os : List Nat) (p : List Int) : List Int := os.map fun k => 0 - p.getD k 0
/-- ahead: the first of the order's measures at which they differ tells -/
def ahd : List Nat → List Int → List Int → Bool
  | [], _, _ => false
  | k :: os, p, q => if p.getD k 0 = q.getD k 0 then ahd os p q else decide (q.getD k 0 < p.getD k 0)
section
variable {m : Nat} {os : List Nat}
end
end DL

/-! the points in an order; weights by which an order goes. -/
namespace DL
open PySem PySem.Spec PyProof.Rows L2
/-! ### weights -/
def dS (os : List Nat) (ws p q : List Int) : Int := (os.map fun k => (p.getD k 0 - q.getD k 0) * ws.getD k 0).sum
structure WJ (ps : List (List Int)) (os : List Nat) (ws : List Int) (b : Int) : Prop where
  pos : 0 ≤ b
  one : ∀ k ∈ os, 1 ≤ ws.getD k 0
  top : ∀ p ∈ ps, ∀ q ∈ ps, dS os ws p q ≤ b
  ahead : ∀ p ∈ ps, ∀ q ∈ ps, ahd os p q = true → 1 ≤ dS os ws p q
end DL

/-! the spread in a measure, the weights of an order, as functions. -/
namespace DL
open PySem PySem.Spec PyProof.Rows L2
end DL

/-! going by an order: the chain of the sorted points tells of all pairs. -/
namespace DL
open PySem PySem.Spec PyProof.Rows L2
end DL

/-! min of a tuple. -/
namespace DL
open PySem PySem.Spec PyProof.Rows L2
section
variable {prog : Program} {w : World} {A : Around} {E : Value → Shared → Prop} {s : Shared} {a : Addr} {its : List Value} {ns : List Int} {Q : Value → Shared → Prop}
end
section
variable {X : Cx} {B : Ba} {K : PySem.W.Frag} {lk : List Nat} {e d : Expr} {es : List Expr} {t : DTA} {ta td : DT} {p pos kpos : Pos}
end
end DL

/-! sorted(xs, key=f), f a def whose keys may hold lists. -/
namespace DL
open PySem PySem.Spec PyProof.Rows PySem.Calls L2
section
variable {prog : Program} {w : World} {A : Around} {E : Value → Shared → Prop} {s : Shared} {a kS : Addr} {vs : List Value} {keys : Array Value} {e e1 : Nat} {P : PySem.Fin → Shared → Prop} {kz : List PyData}
def keyEnd (h : Heap) (kS a : Addr) (out : List Value) : Heap := (h.update kS (Obj.mapSeq fun _ => (#[] : Array Value))).update a (Obj.mapSeq fun _ => out.toArray)
theorem keyX_tail {st : SortSt} {out : List Value} (nk : s.heap.get? kS = some (seqObj "list" keys e)) (na : s.heap.get? a = some (seqObj "list" #[] e1)) (hka : kS ≠ a)
    (hsz : keys.size ≤ sizeLine) (hz : out.length ≤ sizeLine) (hfl : failedOf st = none) (ho : (arrOf st).map (·.2) = out.toArray) (h : P (.done (.ret .none)) { s with heap := keyEnd s.heap kS a out }) :
    wpAny (model prog w) A (ksk_tail a false e1 (.ref kS) st) P E s := by
  have s1 := Heap.SameBut.update s.heap kS (Obj.mapSeq fun _ => (#[] : Array Value))
  have na1 : (s.heap.update kS (Obj.mapSeq fun _ => (#[] : Array Value))).get? a = some (seqObj "list" #[] e1) := (s1.2 a hka.symm).trans na
  have hz2 : out.toArray.size ≤ sizeLine + 1 := by
    rw [List.size_toArray]
    exact Nat.le_succ_of_le hz
  unfold ksk_tail
  try dsimp only
  rw [if_neg Bool.false_ne_true, ho]
  refine wpAny_bind (listUpdate_at nk rfl ?_ hsz (Nat.zero_le _))
  refine wpAny_bind (wpAny_letGo ?_)
  refine wpAny_bind (seqEpoch_at na1 rfl ?_)
  refine wpAny_bind (listUpdate_at na1 rfl ?_ (Nat.zero_le _) hz2)
  rw [hfl]
  simp only [bne_self_eq_false, Bool.false_eq_true, if_false]
  exact wpAny_pure h
theorem keyX_end {κ : PyProof.Rows.KeyKind} (nk : s.heap.get? kS = some (seqObj "list" keys e)) (na : s.heap.get? a = some (seqObj "list" #[] e1)) (hka : kS ≠ a)
    (S : PySem.W.SortsAt prog w A s κ keys.toList) (hsz : keys.size = vs.length) (hZ : vs.length ≤ sizeLine) (h : P (.done (.ret .none)) { s with heap := keyEnd s.heap kS a (PySem.W.sortVals κ false keys.toList vs) }) :
    wpAny (model prog w) A (ksk_end a false vs.toArray e1 (.ref kS) keys) P E s := by
  obtain ⟨kd, h1, h2⟩ := S.kind
  have hkl : keys.toList.length = vs.length := by
    rw [Array.length_toList]
    exact hsz
  have hK : PyProof.Rows.KeysOf κ (keys.zip vs.toArray) := PySem.W.keysOf_zip S.keys
  have hol : (PySem.W.sortVals κ false keys.toList vs).length = vs.length := PySem.W.sortVals_length false hkl
  have hss : (keys.zip vs.toArray).size = vs.length := by rw [Array.size_zip, hsz, List.size_toArray, Nat.min_self]
  have fin : ∀ st' : SortSt, (arrOf st').Perm (keys.zip vs.toArray) → SortedToK κ (arrOf st') (keys.zip vs.toArray).size →
      Stable κ (arrOf st') (keys.zip vs.toArray) → (arrOf st').map (·.2) = (PySem.W.sortVals κ false keys.toList vs).toArray := by
    intro st' hp hs ht
    have e := PySem.W.sort_out (rev := false) (keys := keys) (items := vs.toArray) (xs := arrOf st') (κ := κ) hK hp hs ht
    have e' := congrArg List.toArray e
    rw [Array.toArray_toList] at e'
    exact e'
  unfold ksk_end
  try dsimp only
  simp only [Bool.false_eq_true, if_false]
  by_cases hl2 : vs.toArray.size < 2
  · rw [if_pos hl2, if_pos hl2]
    refine wpAny_bind (wpAny_pure ?_)
    rw [StateT.run_pure]
    refine wpAny_bind (wpAny_pure ?_)
    try dsimp only
    refine keyX_tail (st := SortSt.mk' general' (keys.zip vs.toArray) #[] 7 none) nk na hka (by rw [hsz]; exact hZ) (by rw [hol]; exact hZ) rfl (fin _ (Array.Perm.refl _) ?_ (Stable.refl _)) h
    intro i j hij hj
    rw [hss] at hj
    rw [List.size_toArray] at hl2
    have : i = j := by omega
    subst this
    exact KeyOrd.kle_refl _
  · rw [if_neg hl2, if_neg hl2]
    rw [List.size_toArray] at hl2
    refine wpAny_bind (h2 (by omega) _ ?_)
    refine wpAny_bind (wpAny_mono (H.wpS_sortRunsSt (κ := κ) (kd := kd) (a₀ := keys.zip vs.toArray)
      (st := SortSt.mk' kd (keys.zip vs.toArray) #[] 7 none)
      (Q := fun _ st' => failedOf st' = none ∧ (arrOf st').map (·.2) = (PySem.W.sortVals κ false keys.toList vs).toArray)
      h1 hK ⟨Array.Perm.refl _, rfl, rfl⟩ rfl (Stable.refl _) (by rw [hss]; omega) fun st' a1 a2 a3 a4 => ⟨a2, fin st' a1 a3 a4⟩) ?_ fun _ _ e => e)
    rintro ⟨⟨⟩, st'⟩ s' ⟨rfl, hf, ho⟩
    try dsimp only at ho ⊢
    exact keyX_tail nk na hka (by rw [hsz]; exact hZ) (by rw [hol]; exact hZ) hf ho h
end
/-- what a call for a key is to give, among things that stand -/
structure KeyAt (X : Cx) (pins : List (Addr × Obj)) (σ : L2.St) (F : Addr → Prop) (H : Hp) (F' : Addr → Prop) (H' : Hp) (s' : Shared) : Prop where
  inv : Inv X pins σ H' s'
  fr : ∀ c o, H c = some o → H' c = some o
  f0 : ∀ c, F c → F' c
  f1 : ∀ c, F' c → F c ∨ H c = none
  fh : ∀ c, F' c → H' c ≠ none
section
variable {X : Cx} {pins : List (Addr × Obj)} {σ : L2.St} {F F' : Addr → Prop} {H H' : Hp} {s s' : Shared} {a kS : Addr} {vs : List Value} {xs : List V} {ds : List PyData} {kf : PyData → PyData} {e1 : Nat} {f : Value}
theorem keyX_rest {P : PySem.Fin → Shared → Prop} {E : Value → Shared → Prop} {A2 : Around} (I : Inv X ((a, seqObj "list" #[] e1) :: pins) σ (upd H kS (.lst [])) s) (fh : ∀ c, F c → H c ≠ none) (hkS : H kS = none) (hv : Vals xs vs) (hd : RpA X.K F H xs ds) (hZ : vs.length ≤ sizeLine)
    (hal : PySem.W.AllAlike (ds.map kf)) (hsk : PySem.W.Sortable (ds.map kf)) (hu : ∀ d, d ∈ ds.map kf → A2.units + d.depth < cLine) (hnd : ∀ d, d ∈ ds.map kf → nd d = true)
    (turn : ∀ (v : Value) (x : V) (d : PyData) (F1 : Addr → Prop) (H1 : Hp) (s1 : Shared), KeyAt X ((a, seqObj "list" #[] e1) :: pins) σ F H F1 H1 s1 → RelV x v → Rp X.K F1 H1 x d → d ∈ ds →
      wpAny (model X.prog X.w) A2 (call f [v]) (fun u s2 => ∃ z F2 H2, KeyAt X ((a, seqObj "list" #[] e1) :: pins) σ F1 H1 F2 H2 s2 ∧ RelV z u ∧ Rp X.K F2 H2 z (kf d)) (fun _ _ => False) s1)
    (h : ∀ (s' : Shared) (F' : Addr → Prop) (H' : Hp) (κ : PyProof.Rows.KeyKind) (keys : Array Value) (e : Nat) (kvs : List V), KeyAt X ((a, seqObj "list" #[] e1) :: pins) σ F H F' H' s' → ¬ F' kS → H' kS = some (.lst kvs) → s'.heap.get? kS = some (seqObj "list" keys e) → κ = PySem.W.dataKind s'.heap (ds.map kf) → RpA X.K F' H' xs ds →
      PySem.W.EachIs (fun v k => ∃ as, Reads s'.heap v k as) keys.toList (ds.map kf) → P (.done (.ret .none)) { s' with heap := keyEnd s'.heap kS a (PySem.W.sortVals κ false keys.toList vs) }) :
    wpAny (model X.prog X.w) A2 (ksk_rest a f false vs.toArray e1 (.ref kS)) P E s := by
  have hlen : xs.length = vs.length := hv.length
  have hdl : xs.length = ds.length := hd.length
  unfold ksk_rest
  refine wpAny_bind (wpAny_rule ?_)
  first
    | rw [List.forIn_toArray]
    | (rw [← Array.forIn_toList]; simp only [List.toList_toArray])
    | rw [← Array.forIn_toList]
  refine wpAny_bind (ksk_fold (fun i s' => ∃ F' H' kvs, KeyAt X ((a, seqObj "list" #[] e1) :: pins) σ F H F' H' s' ∧ ¬ F' kS ∧ H' kS = some (.lst kvs) ∧ RpA X.K F' H' kvs ((ds.map kf).take i)) vs 0 s
    ⟨F, _, [], ⟨I, upd_le hkS, fun _ z => z, fun _ z => .inl z, fun c z => ?_⟩, fun z => fh _ z hkS, upd_same, .nil⟩ ?step ?done)
  · cases e : H c with
    | none => exact absurd e (fh c z)
    | some o => rw [upd_le hkS _ _ e]; exact fun z => nomatch z
  case step =>
    rintro j x s' hx ⟨F', H', kvs, KA, hk1, hk2, hk⟩
    simp only [Nat.zero_add] at hk ⊢
    have hj : j < vs.length := (List.getElem?_eq_some_iff.mp hx).1
    obtain ⟨x', hx', rx⟩ : ∃ x', xs[j]? = some x' ∧ RelV x' x := by
      have hxj : j < xs.length := by omega
      obtain ⟨y, hy1, hy2⟩ := hv.get (List.getElem?_eq_getElem hxj)
      rw [hx] at hy1
      cases hy1
      exact ⟨_, List.getElem?_eq_getElem hxj, hy2⟩
    obtain ⟨d, hd1, rd⟩ := hd.get' hx'
    have kp : Kp F H H' := fun c o e _ _ => KA.fr c o e
    have rd' : Rp X.K F' H' x' d := Rp.keep KA.f0 kp _ _ rd
    refine wpAny_bind (wpAny_attempt (wpAny_mono (turn x x' d F' H' s' KA rx rd' (List.mem_of_getElem? hd1)) (fun v s'' he => ?_) fun _ _ hF => hF.elim))
    obtain ⟨z, F2, H2, KB, rz, rk⟩ := he
    try dsimp only
    have hk2' := KB.fr _ _ hk2
    obtain ⟨z1, its, n, rv, hl, eo⟩ := KB.inv.lstM hk2'
    have hkl : kvs.length = ((ds.map kf).take j).length := hk.length
    have hkj : kvs.length = j := by rw [hkl, List.length_take, List.length_map]; omega
    refine wpAny_bind (listUpdate_at eo rfl ?_ (by rw [List.size_toArray]; omega) (by rw [Array.size_push, List.size_toArray]; omega))
    have I3 : Inv X ((a, seqObj "list" #[] e1) :: pins) σ (upd H2 kS (.lst (kvs ++ [z]))) { s'' with heap := s''.heap.update kS (Obj.mapSeq (·.push v)) } :=
      KB.inv.lset (t' := s''.toks) (its' := its ++ [v]) hk2' eo (by simp) (rv.append (.cons rz .nil)) (by rw [List.length_append, List.length_singleton]; omega)
    have hF2 : ¬ F2 kS := fun z => by
      rcases KB.f1 _ z with y | y
      · exact hk1 y
      · rw [hk2] at y; cases y
    have kp2 : Kp F2 H2 (upd H2 kS (.lst (kvs ++ [z]))) := fun c o e _ hc => by
      rw [upd_ne]
      · exact e
      · rintro rfl
        rcases hc with y | y
        · exact hF2 y
        · rw [hk2'] at e; cases e; exact y
    have ek : (ds.map kf).take (j + 1) = (ds.map kf).take j ++ [kf d] := by
      rw [List.take_add_one, List.getElem?_map, hd1]; rfl
    refine wpAny_pure ⟨rfl, F2, _, kvs ++ [z], ⟨I3, fun c o e => ?_, fun c y => KB.f0 c (KA.f0 c y), fun c y => ?_, fun c y => ?_⟩, hF2, upd_same, ?_⟩
    · rw [upd_ne (ne_of_none e hkS)]; exact KB.fr _ _ (KA.fr _ _ e)
    · rcases KB.f1 c y with q | q
      · exact KA.f1 c q
      · cases e : H c with
        | none => exact .inr rfl
        | some o => rw [KA.fr _ _ e] at q; cases q
    · by_cases hc : c = kS
      · subst hc; rw [upd_same]; exact fun z => nomatch z
      · rw [upd_ne hc]; exact KB.fh c y
    · rw [ek]
      exact RpA.append (RpA.keep (fun _ y => y) kp2 _ _ (RpA.keep KB.f0 (fun c o e _ _ => KB.fr c o e) _ _ hk)) (.one (Rp.keep (fun _ y => y) kp2 _ _ rk))
  case done =>
    rintro s' ⟨F', H', kvs, KA, hk1, hk2, hk⟩
    rw [List.take_of_length_le (by rw [List.length_map]; omega)] at hk
    obtain ⟨z1, its, n, rv, hl, eo⟩ := KA.inv.lstM hk2
    have hkl : kvs.length = vs.length := by rw [hk.length, List.length_map]; omega
    have ea : s'.heap.get? a = some (seqObj "list" #[] e1) := (KA.inv.pin (a, seqObj "list" #[] e1) (List.mem_append_right _ List.mem_cons_self)).1
    have hka : kS ≠ a := fun z => by
      have := (KA.inv.pin (a, seqObj "list" #[] e1) (List.mem_append_right _ List.mem_cons_self)).2.1
      rw [← z, hk2] at this; cases this
    have kp : Kp F H H' := fun c o e _ _ => KA.fr c o e
    have er : PySem.W.EachIs (fun v k => ∃ as, Reads s'.heap v k as) its.toArray.toList (ds.map kf) := by
      rw [List.toList_toArray]
      have e := eachIs_pairs hk rv
      have em : (kvs.zip (ds.map kf)).map (fun b : V × PyData => b.2) = ds.map kf := map_zip_snd hk.length
      have er := (PySem.W.each_mem e).mono (R' := fun u (b : V × PyData) => ∃ as, Reads s'.heap u b.2 as) fun u b ⟨⟨z1, z2⟩, hb⟩ => Dq.reads KA.inv b.2 b.1 u (hnd _ (List.of_mem_zip hb).2) z2.dp z1
      have := PySem.W.each_map (R := fun v d => ∃ as, Reads s'.heap v d as) (fun b : V × PyData => b.2) er
      rw [em] at this
      exact this
    refine wpAny_bind (listItems_at eo rfl ?_)
    exact keyX_end (κ := PySem.W.dataKind s'.heap (ds.map kf)) eo ea hka (PySem.W.SortsAt.data (s := s') er hal hsk hu) (by rw [List.size_toArray]; omega) hZ (h s' F' H' _ _ _ kvs KA hk1 hk2 eo rfl (RpA.keep KA.f0 kp _ _ hd) er)
end
section
variable {X : Cx} {pins : List (Addr × Obj)} {σ : L2.St} {H : Hp} {s : Shared}
/-- a new untracked object is held -/
theorem Inv.pinNew {a : Addr} {o : Obj} {h' : Heap} {t' : Nat} (I0 : Inv X pins σ H s) (I : Inv X pins σ H { s with heap := h', toks := t' }) (ha : s.heap.objs.size ≤ a) (e : h'.get? a = some o) (hc : ∀ v, o.data ≠ .cell v) : Inv X ((a, o) :: pins) σ H { s with heap := h', toks := t' } :=
  ⟨I.ok, I.os, I.bare, I.base, I.loc, I.cell, I.free, I.freeC, fun p hp => by
    rcases List.mem_append.mp hp with z | z
    · exact I.pin p (List.mem_append_left _ z)
    · rcases List.mem_cons.mp z with rfl | z
      · exact ⟨e, I0.hok.fresh ha, fun q => by have h1 := I0.lt; rw [← (show a = X.env.locals from q)] at h1; exact Nat.lt_irrefl _ (Nat.lt_of_lt_of_le h1 ha), I0.nofs ha, hc⟩
      · exact I.pin p (List.mem_append_right _ z), I.hok, I.len⟩
theorem Inv.unpin {p : Addr × Obj} (I : Inv X (p :: pins) σ H s) : Inv X pins σ H s :=
  ⟨I.ok, I.os, I.bare, I.base, I.loc, I.cell, I.free, I.freeC, fun q hq => I.pin q (by
    rcases List.mem_append.mp hq with z | z
    · exact List.mem_append_left _ z
    · exact List.mem_append_right _ (List.mem_cons_of_mem _ z)), I.hok, I.len⟩
/-- an untracked list of this call's is tracked, with other items -/
theorem Inv.adopt {s0 : Shared} {H0 : Hp} {a : Addr} {xs : List V} {its : List Value} {n : Nat} {f : Array Value → Array Value} {A0 : Array Value} (I0 : Inv X pins σ H0 s0) (ha : s0.heap.objs.size ≤ a) (I : Inv X pins σ H s) (hn : H a = none)
    (e : s.heap.get? a = some { cls := .type "list", data := .seq A0 n }) (hf : f A0 = its.toArray) (hv : Vals xs its) (hz : xs.length ≤ sizeLine) : Inv X pins σ (upd H a (.lst xs)) { s with heap := s.heap.update a (Obj.mapSeq f) } := by
  have q := PySem.IsL.update e f
  rw [hf] at q
  have k : ∀ b u, b ≠ a → s.heap.get? b = some u → (s.heap.update a (Obj.mapSeq f)).get? b = some u := fun b u hb hu => (Heap.get?_update_other s.heap (Obj.mapSeq f) (Ne.symm hb)).trans hu
  have at_ : ∀ b u, H b = some u → b ≠ a := fun b u z => ne_of_none z hn
  have hok : HOk X.prog X.w (upd H a (.lst xs)) (s.heap.update a (Obj.mapSeq f)) := fun b u z => by
    by_cases hb : b = a
    · subst hb
      rw [upd_same] at z
      cases z
      exact ⟨hz, its, _, hv, q⟩
    · rw [upd_ne hb] at z
      refine (I.hok b u z).stay (fun c v hc r => k c v ?_ r) (fun c r => by rw [upd_ne (at_ c _ r)]; exact r) fun c ys r => by rw [upd_ne (at_ c _ r)]; exact r
      rcases hc with rfl | hc
      · exact hb
      · exact at_ c _ hc
  have lt0 : ∀ b u, s0.heap.get? b = some u → b ≠ a := fun b u z w => by
    have := Heap.lt_size z
    rw [w] at this
    exact Nat.lt_irrefl _ (Nat.lt_of_lt_of_le this ha)
  refine I.call (t' := s.toks) (d' := s.drawn) (g' := s.gens) (ch := [a]) ⟨fun b u z _ _ hx => k b u (fun w => hx (by rw [w]; exact List.mem_singleton.mpr rfl)) z, fun b u z _ _ hx => ⟨u.slots, k b u (fun w => hx (by rw [w]; exact List.mem_singleton.mpr rfl)) z⟩, fun b u _ z hx => by
      rw [upd_ne (fun w => hx (by rw [w]; exact List.mem_singleton.mpr rfl))]; exact z, fun b u z hx => ⟨u, k b u (fun w => hx (by rw [w]; exact List.mem_singleton.mpr rfl)) z⟩, fun b ys z => by rw [upd_ne (at_ b _ z)]; exact z, fun b o u z => by rw [upd_ne (at_ b _ z)]; exact z, fun b ps z => ⟨#[], by rw [upd_ne (at_ b _ z), z]; simp⟩⟩ hok I.bare fun b hb => ?_
  rw [List.mem_singleton.mp hb]
  refine ⟨.inr (Nat.le_trans I0.sz ha), fun z => by have h1 := I0.lt; rw [← z] at h1; exact Nat.lt_irrefl _ (Nat.lt_of_lt_of_le h1 ha), fun x c hc z => ?_, fun p hp z => ?_⟩
  · obtain ⟨v, hv⟩ := I0.cell x c hc
    obtain ⟨o, ho, _⟩ := hv
    exact lt0 _ _ ho z
  · exact lt0 _ _ (I0.pin p hp).1 z
end
theorem env0_in2 {P : Program} {w : World} {K : PySem.W.Frag} {mg : Str → Option Value} {base : Heap} {A : Around} {outer : List Env} {s : Shared} {H : Hp} (e : Env0 P w K mg base A outer s H) : Env0 P w K mg base A.in1.in1 outer s H := ⟨e.frames, e.mod, e.bs, e.bsz, e.funs, e.frf, e.hok, e.bare⟩
/-- sorted(xs, key=fv): what one turn is to give -/
theorem sortK_core {X : Cx} {k : Nat} {fa : Addr} {kf : PyData → PyData} {pins : List (Addr × Obj)} {σ : L2.St} {H : Hp} {s : Shared} {l : Addr} {xs : List V} {F0 : Addr → Prop} {ds : List PyData} {Q : VK} (hr : Room (k + 2) X.A) (I : Inv X pins σ H s) (fh : ∀ c, F0 c → H c ≠ none) (hs : SqL X.K H l xs) (ra : RpA X.K F0 H xs ds)
    (hal : PySem.W.AllAlike (ds.map kf)) (hso : PySem.W.Sortable (ds.map kf)) (hd60 : (ds.map kf).all (dep 60) = true)
    (turnH : ∀ (e1 : Nat) (v : Value) (x : V) (d : PyData) (F1 : Addr → Prop) (H1 : Hp) (s1 : Shared), KeyAt X ((s.heap.objs.size + 1, seqObj "list" #[] e1) :: pins) σ F0 H F1 H1 s1 → RelV x v → Rp X.K F1 H1 x d → d ∈ ds →
      wpAny (model X.prog X.w) X.A.in1.in1 (call (.ref fa) [v]) (fun u s2 => ∃ z F2 H2, KeyAt X ((s.heap.objs.size + 1, seqObj "list" #[] e1) :: pins) σ F1 H1 F2 H2 s2 ∧ RelV z u ∧ Rp X.K F2 H2 z (kf d)) (fun _ _ => False) s1)
    (q : ∀ F' H' ys p, (∀ c o, H c = some o → H' c = some o) → (∀ c, F0 c → F' c) → (∀ c, F' c → F0 c ∨ H c = none) → (∀ c, F' c → H' c ≠ none) → RpA X.K F' H' ys (ds.mergeSort (PySem.W.dataLe false kf)) → H' p = none → Q (.ref p) (upd H' p (.lst ys))) :
    wpAny (model X.prog X.w) X.A (call (.builtin "sorted") [.ref l] [(Str.ofString "key", .ref fa)]) (EP X pins σ Q) X.xe s := by
  obtain ⟨its, rv, pl, hz⟩ := I.list hs
  have hlen : xs.length = its.length := rv.length
  have hzi : its.length ≤ sizeLine := by omega
  refine PySem.W.sorted_of_sort (vs := its) pl.isList hzi (PyProof.Rows.ksk_s1 _ _) (fun _ => PyProof.Rows.ksk_l1 _ _) fun E' => ?_
  show wpAny _ _ (Builtin.«list.sort» ⟨[.ref (s.heap.objs.size + 1)], [(Str.ofString "key", .ref fa)]⟩) _ _ _
  rw [PyProof.Rows.ksk_t1]
  have hr2 : Room k X.A.in1.in1 := hr.in1.in1
  have un2 : X.A.in1.in1.units + 100 < cLine := un0 hr2
  have hu : ∀ d, d ∈ ds.map kf → X.A.in1.in1.units + d.depth < cLine := fun d hd => by
    have := (dep_ok 60 d (List.all_eq_true.mp hd60 _ hd)).2
    omega
  have ho := PySem.W.copyHeap_at s.heap its
  have hold : ∀ b o, s.heap.get? b = some o → (PySem.W.copyHeap s.heap its).get? b = some o := fun b o e => PySem.W.copyHeap_old e
  obtain ⟨e1, ho1⟩ : ∃ e1, ((PySem.W.copyHeap s.heap its).update (s.heap.objs.size + 1) (Obj.mapSeq fun _ => (#[] : Array Value))).get? (s.heap.objs.size + 1) = some (seqObj "list" #[] e1) := ⟨_, get?_update_seq ho fun _ => #[]⟩
  have holdA : ∀ b o, s.heap.get? b = some o → (((PySem.W.copyHeap s.heap its).update (s.heap.objs.size + 1) (Obj.mapSeq fun _ => (#[] : Array Value))).push (seqObj "tuple" its.toArray 0)).get? b = some o := fun b o e => by
    refine Heap.get?_push_of_some _ ?_
    rw [Heap.get?_update_ne _ _ _ _ (Nat.ne_of_lt (Nat.lt_succ_of_lt (Heap.lt_size e)))]
    exact hold b o e
  unfold ksk_tree
  refine wpAny_bind (listItems_at ho rfl ?_)
  refine wpAny_bind (listUpdate_at ho rfl ?_ (by rw [List.size_toArray]; exact hzi) (Nat.zero_le _))
  refine wpAny_bind (seqEpoch_at ho1 rfl ?_)
  refine wpAny_bind (wpAny_newTuple ?_ (by show its.length ≤ _; exact hzi))
  refine wpAny_bind (wpAny_newList ?_ (Nat.zero_le _))
  refine wpAny_holding ?_
  have I1 : Inv X pins σ H { s with heap := ((PySem.W.copyHeap s.heap its).update (s.heap.objs.size + 1) (Obj.mapSeq fun _ => (#[] : Array Value))).push (seqObj "tuple" its.toArray 0) } := I.kept (t' := s.toks) holdA
  have I1p := Inv.pinNew (t' := s.toks) I I1 (Nat.le_succ _) (Heap.get?_push_of_some _ ho1) (fun v z => by cases z)
  have I2 := I1p.lnew (its := []) (ys := []) (t' := s.toks) .nil (Nat.zero_le _)
  have hkn := I1p.fresh
  refine keyX_rest I2 fh hkn rv ra hzi hal hso hu (fun d hd => dep_nd 60 d (List.all_eq_true.mp hd60 _ hd)) (fun v x d F1 H1 s1 KA1 rx rd hdm => turnH e1 v x d F1 H1 s1 KA1 rx rd hdm) ?_
  · intro s' F' H' κ keys e kvs KA hk1 hk2 eo hκ ra' er
    refine ⟨rfl, ?_⟩
    have ea := (KA.inv.pin (s.heap.objs.size + 1, seqObj "list" #[] e1) (List.mem_append_right _ List.mem_cons_self))
    have hka : s.heap.objs.size + 1 ≠ (((PySem.W.copyHeap s.heap its).update (s.heap.objs.size + 1) (Obj.mapSeq fun _ => (#[] : Array Value))).push (seqObj "tuple" its.toArray 0)).objs.size := fun z => by
      have := ea.2.1
      rw [z, hk2] at this; cases this
    generalize (((PySem.W.copyHeap s.heap its).update (s.heap.objs.size + 1) (Obj.mapSeq fun _ => (#[] : Array Value))).push (seqObj "tuple" its.toArray 0)).objs.size = kS at *
    have J1 := Inv.unpin KA.inv
    have J2 := J1.lset (t' := s'.toks) (its := keys.toList) (its' := []) (ys := []) (f := fun _ => #[]) hk2 (by simpa using eo) rfl .nil (Nat.zero_le _)
    have kp : Kp F' H' (upd H' kS (.lst [])) := fun c o e _ hc => by
      rw [upd_ne]
      · exact e
      · rintro rfl
        rcases hc with y | y
        · exact hk1 y
        · rw [hk2] at e; cases e; exact y
    have ra2 := RpA.keep (F' := F') (fun _ y => y) kp _ _ ra'
    have hna : upd H' kS (.lst []) (s.heap.objs.size + 1) = none := by rw [upd_ne hka]; exact ea.2.1
    have ep := eachIs_pairs ra2 rv
    have em : (xs.zip ds).map (fun b : V × PyData => kf b.2) = ds.map kf := by
      rw [show (fun b : V × PyData => kf b.2) = kf ∘ fun b : V × PyData => b.2 from rfl, ← List.map_map, map_zip_snd ra.length]
    have ko : PySem.W.KeyedOut false ((xs.zip ds).map fun b : V × PyData => kf b.2) its (PySem.W.sortVals κ false keys.toList its) := by
      rw [em]
      exact ⟨s'.heap, keys.toList, hal, by rw [hκ], er⟩
    have eo2 := PySem.W.keyedOut_each (fun b : V × PyData => kf b.2) ko ep
    obtain ⟨ov, or⟩ := eachIs_un (fun _ _ z => z) eo2
    have es : ((xs.zip ds).mergeSort (PySem.W.dataLe false fun b : V × PyData => kf b.2)).map (fun b : V × PyData => b.2) = ds.mergeSort (PySem.W.dataLe false kf) := by
      rw [List.map_mergeSort (r := PySem.W.dataLe false fun b : V × PyData => kf b.2) (s := PySem.W.dataLe false kf) (f := fun b : V × PyData => b.2) (l := xs.zip ds) (fun _ _ _ _ => rfl), map_zip_snd ra.length]
    rw [es] at or
    have lo : (((xs.zip ds).mergeSort (PySem.W.dataLe false fun b : V × PyData => kf b.2)).map (fun b : V × PyData => b.1)).length ≤ sizeLine := by
      rw [List.length_map, List.length_mergeSort, List.length_zip, ← ra.length, Nat.min_self]; omega
    have J3 := Inv.adopt (s0 := s) (a := s.heap.objs.size + 1) I (Nat.le_succ _) J2 hna (by
      show (s'.heap.update kS (Obj.mapSeq fun _ => (#[] : Array Value))).get? _ = _
      rw [Heap.get?_update_ne _ _ _ _ hka]
      exact ea.1) (f := fun _ => (PySem.W.sortVals κ false keys.toList its).toArray) rfl ov lo
    refine ⟨.ref _, _, J3, rfl, q F' _ _ _ (fun c o e => ?_) KA.f0 KA.f1 (fun c z => ?_) or hna⟩
    · have h1 := KA.fr c o e
      rw [upd_ne]
      · exact h1
      · rintro rfl
        rw [hkn] at e; cases e
    · by_cases hc : c = kS
      · subst hc; rw [upd_same]; exact fun z => nomatch z
      · rw [upd_ne hc]; exact KA.fh c z
section
variable {K : PySem.W.Frag} {B : Ba} {lv : List (Nat × V)} {st tm : List Vl} {σ : L2.St} {tv : List V} {H H' : Hp} {F F' : Addr → Prop} {O : Addr → Option Ow}
/-- more things stand, more are frozen -/
theorem RelX.ext (R : RelX K B lv st tm σ tv H F O) (fr : ∀ c o, H c = some o → H' c = some o) (f0 : ∀ c, F c → F' c) (f1 : ∀ c, F' c → F c ∨ H c = none) (fh : ∀ c, F' c → H' c ≠ none) : RelX K B lv st tm σ tv H' F' O where
  len := R.len
  sl := fun i d e => (R.sl i d e).imp id fun ⟨v, h1, h2⟩ => ⟨v, h1, h2.keep f0 (fun c o e _ _ => fr c o e) (fun _ z => z) (fun c o _ _ e => fr c o e)⟩
  tp := R.tp.keep f0 (fun c o e _ _ => fr c o e) σ (fun _ _ _ z => z) (fun c o _ _ _ _ e => fr c o e) (fun _ _ _ z => z)
  fo := fun c z => by
    rcases f1 c z with y | y
    · exact R.fo c y
    · cases e : O c with
      | none => rfl
      | some w => exact (R.oh' e y).elim
  oh := fun c w e => by
    obtain ⟨o, h1, h2⟩ := R.oh c w e
    exact ⟨o, fr c o h1, h2⟩
  fh := fh
  fr := R.fr.ext fr
  mi := R.mi
  f0 := fun c z => f0 c (R.f0 c z)
  f1 := fun c z => by
    rcases f1 c z with y | y
    · exact R.f1 c y
    · by_cases n : B.A0 c
      · exact .inr (.inr n)
      · cases e : B.H0 c with
        | none => exact .inr (.inl rfl)
        | some o => exact absurd y (R.fr.ne e n)
  lk := R.lk
end
section
variable {X : Cx} {B : Ba} {k j : Nat} {x : Str} {S : VSp} {lk : List Nat} {e : Expr} {ta : DT} {p p2 pos kpos : Pos}
end
section
variable {st : List Vl} {Q : Vl → List Vl → Prop} {S : VSp} {ta : DT}
end
end DL

/-! A lambda with parameters is made; sorted(xs, key=lambda ..). -/
namespace DL
open PySem PySem.Spec PyProof.Rows L2
open LamX
/-- the object at f is the lambda of that name, with those cells and that code -/
def LamO (f : Addr) (q : Str) (params : Arguments) (body : Expr) (scope : Scope) (cl : List (Str × Addr)) (c : Addr) : HO :=
  .ext fun h => ∃ pm ctv : Value, h.get? f = some (PySem.W.kla_obj "<lambda>" q params body scope cl pm c ctv)
section
variable {X : Cx} {pins : List (Addr × Obj)} {σ : L2.St} {H : Hp} {s : Shared}
theorem inv_lam {q : Str} {params : Arguments} {body : Expr} {scope : Scope} {cl : List (Str × Addr)} {c : Addr} {t' : Nat} {pm ctv : Value} (I : Inv X pins σ H s) :
    Inv X pins σ (upd H s.heap.objs.size (LamO s.heap.objs.size q params body scope cl c)) { s with heap := s.heap.push (PySem.W.kla_obj "<lambda>" q params body scope cl pm c ctv), toks := t' } := by
  have e : (s.heap.push (PySem.W.kla_obj "<lambda>" q params body scope cl pm c ctv)).get? s.heap.objs.size = some (PySem.W.kla_obj "<lambda>" q params body scope cl pm c ctv) := Heap.get?_push_size _ rfl
  exact I.laid (fun b u z => Heap.get?_push_of_some _ z) (Nat.le_refl _) ⟨⟨pm, ctv, e⟩, ⟨_, e⟩, fun h1 h2 ⟨p, t, z⟩ st => ⟨p, t, st _ z⟩⟩
theorem lamO_at {P : Program} {w : World} {h : Heap} {f : Addr} {q : Str} {params : Arguments} {body : Expr} {scope : Scope} {cl : List (Str × Addr)} {c : Addr} (hok : HOk P w H h) (e : H f = some (LamO f q params body scope cl c)) : ∃ pm ctv : Value, h.get? f = some (PySem.W.kla_obj "<lambda>" q params body scope cl pm c ctv) := (hok f _ e).1
/-- behind the making: all but the tables stays, tables stay tables -/
structure Made (T : List (Addr × Str)) (H H1 : Hp) : Prop where
  ke : ∀ b o, H b = some o → NT o → H1 b = some o
  kt : ∀ b ps, H b = some (.tbl ps) → ∃ qs, H1 b = some (.tbl qs)
  no : ∀ b, H1 b = none → H b = none
  tb : Tabs T H1
theorem Made.ext {T : List (Addr × Str)} {H H1 H2 : Hp} (m : Made T H H1) (e : ∀ b o, H1 b = some o → H2 b = some o) : Made T H H2 := ⟨fun b o h n => e b o (m.ke b o h n), fun b ps h => by
  obtain ⟨qs, z⟩ := m.kt b ps h
  exact ⟨qs, e _ _ z⟩, fun b h => (by
  cases z : H1 b with
  | none => exact m.no b z
  | some o => rw [e b o z] at h; cases h), m.tb.ext e⟩
theorem lam_mk {T : List (Addr × Str)} {c P : Addr} {params : Arguments} {body : Expr} {scope : Scope} {pos : Pos} {E : Value → Shared → Prop} {Q : Value → Shared → Prop} (I : Inv X pins σ H s) (TB : TabB X.base X.mg c P) (hcode : X.env.code = .ref c)
    (hm : (P, X.env.qual ++ "<lambda>") ∈ T) (hu : ∀ p ∈ T, p.1 = P → p.2 = X.env.qual ++ "<lambda>") (hT : Tabs T H) (hdef : defaultsOf params X.env = ([], [])) (hfree : ∀ y ∈ scope.names, y.2 = .free → ∃ c, X.env.cells.lookup y.1 = some c)
    (h : ∀ (f c' : Addr) (H1 : Hp) (s' : Shared), Inv X pins σ H1 s' → Made T H H1 → H f = none → H1 f = some (LamO f (X.env.qual ++ "<lambda>") params body scope (cloFrom X.env.cells scope.names []) c') → H1 c' = some (CodeO c' (X.env.qual ++ "<lambda>")) → Q (.ref f) s') :
    wpAny (model X.prog X.w) X.A (eval (.Lambda params body scope pos) X.env) Q E s := by
  obtain ⟨ps, hP, ht, ha⟩ := hT _ hm
  refine PySem.W.kla_eval hdef ?_
  have bP : s.heap.BuiltinsAt X.mg P := TB.bm.keeps I.bk
  have hP' : s.heap.get? P = some { cls := .none, data := .fields ps } := I.hok P _ hP
  have clo := closure_ok hfree
  cases hc : codeAmong pos ps.toList with
  | none =>
    refine PySem.W.kla_makeFunction (ps := ps) clo I.ok.glob (I.mod.glob.keeps I.bk) hcode (TB.code.keeps I.bk) hP' ht hc TB.gP bP fun c' ctv h' tk hx hge hlt hrec htb => ?_
    obtain ⟨c2, oc, vs, t, e2, hoc, hd, hv⟩ := hrec
    cases e2
    have nC : H c' = none := I.hok.fresh hge
    have I1 := inv_table (t' := tk) (more := #[rawInt pos.line, rawInt pos.col, .ref c']) (h' := h') I hP hx htb hge ⟨oc, vs, t, hoc, hd, hv⟩
    obtain ⟨H1, eH⟩ : ∃ H1, upd (upd H P (.tbl (ps ++ #[rawInt pos.line, rawInt pos.col, .ref c']))) c' (CodeO c' (X.env.qual ++ "<lambda>")) = H1 := ⟨_, rfl⟩
    rw [eH] at I1
    have atc : H1 c' = some (CodeO c' (X.env.qual ++ "<lambda>")) := by rw [← eH]; exact upd_same
    have nPc : P ≠ c' := ne_of_none hP nC
    have atP : H1 P = some (.tbl (ps ++ #[rawInt pos.line, rawInt pos.col, .ref c'])) := by rw [← eH, upd_ne nPc]; exact upd_same
    have old : ∀ b o, b ≠ P → H b = some o → H1 b = some o := fun b o n e => by rw [← eH, upd_ne (ne_of_none e nC), upd_ne n]; exact e
    have hE : ∀ b o, H b = some o → NT o → H1 b = some o := fun b o e n => old b o (fun z => n ps (Option.some.inj (e.symm.trans (by rw [z]; exact hP)))) e
    have eL : (ps ++ #[rawInt pos.line, rawInt pos.col, .ref c']).toList = ps.toList ++ [rawInt pos.line, rawInt pos.col, .ref c'] := by simp
    have M : Made T H H1 := by
      refine ⟨hE, fun b qs e => ?_, fun b e => ?_, fun p hp => ?_⟩
      · by_cases z : b = P
        · rw [z]; exact ⟨_, atP⟩
        · exact ⟨qs, old b _ z e⟩
      · cases z : H b with
        | none => rfl
        | some o =>
          by_cases y : b = P
          · rw [y, atP] at e; cases e
          · rw [old b o y z] at e; cases e
      · by_cases hb : p.1 = P
        · rw [hu p hp hb, hb]
          refine ⟨_, atP, by rw [eL]; exact PySem.TriplesOk_snoc _ _ _ _ ht, fun p' cv hcv => ?_⟩
          rw [eL] at hcv
          rcases among_app _ ht hcv with z | z
          · obtain ⟨c0, e1, e2⟩ := ha p' cv z
            exact ⟨c0, e1, hE _ _ e2 (.ext _)⟩
          · exact ⟨c', z, atc⟩
        · obtain ⟨ps', a1, a2, a3⟩ := hT p hp
          refine ⟨ps', old _ _ hb a1, a2, fun p' cv hcv => ?_⟩
          obtain ⟨c0, e1, e2⟩ := a3 p' cv hcv
          exact ⟨c0, e1, hE _ _ e2 (.ext _)⟩
    have nF := I1.hok.fresh (Nat.le_refl _)
    refine h h'.objs.size c' _ _ (inv_lam (t' := tk) I1) (M.ext (upd_le nF)) (I.hok.fresh (Nat.le_trans hge (Nat.le_of_lt hlt))) upd_same (upd_le nF _ _ atc)
  | some cv =>
    obtain ⟨c', e, hco⟩ := ha pos cv hc
    subst e
    refine PySem.W.kla_makeFunctionHit (ps := ps) clo I.ok.glob (I.mod.glob.keeps I.bk) hcode (TB.code.keeps I.bk) hP' ht hc bP fun ctv h' tk hx hsz => ?_
    have I1 : Inv X pins σ H { s with heap := h', toks := tk } := I.kept hx
    have nF : H h'.objs.size = none := I1.hok.fresh (Nat.le_refl _)
    exact h h'.objs.size c' _ _ (inv_lam (t' := tk) I1) (Made.ext ⟨fun _ _ e _ => e, fun _ ps e => ⟨ps, e⟩, fun _ e => e, hT⟩ (upd_le nF)) nF upd_same (upd_le nF _ _ hco)
end
section
variable {X : Cx} {pins : List (Addr × Obj)} {σ : L2.St} {H1 : Hp} {s1 : Shared} {f c' : Addr} {q : Str} {params : Arguments} {body : Expr} {scope : Scope} {cl : List (Str × Addr)} {N fr : List Str} {a : Str} {js : List Nat} {k : Nat}
abbrev lamF (q : Str) (params : Arguments) (scope : Scope) (cl : List (Str × Addr)) (c' : Addr) : NdefX.NF := ⟨"<lambda>", q, params, [], scope, cl, c'⟩
/-- the context of a lambda's body -/
abbrev lcx (X : Cx) (N : List Str) (q : Str) (params : Arguments) (scope : Scope) (cl : List (Str × Addr)) (c' f : Addr) (A : Around) (s : Shared) (H : Hp) : Cx :=
  NdefX.ncx CX0 X.prog X.w X.K X.mg X.base N (lamF q params scope cl c') f A X.stack s H fun _ _ _ => False
/-- the lambda called with one thing -/
theorem run_lam {A : Around} {v : Value} {x : V} {Q : VK} {tb : TE} (J : Inv X pins σ H1 s1) (e0 : Env0 X.prog X.w X.K X.mg X.base A X.stack s1 H1) (hr : Room (k + 1) A) (hf : H1 f = some (LamO f q params body scope cl c')) (hc : H1 c' = some (CodeO c' q)) (S : NdefX.NScope N [a] fr scope) (C : NdefX.Caps X cl fr js)
    (hbind : ∀ (pm ctv v : Value), bindArgs (PySem.W.kla_fn "<lambda>" q params body scope cl pm (.ref c') ctv) ⟨[v], []⟩ = pure [(a, v)]) (rx : RelV x v)
    (hbody : PE (lcx X N q params scope cl c' f A s1 H1) body tb) (h : tb (NdefX.startF N [x] (js.map (NdefX.slotAt σ))) H1 Q) :
    codeAny (model X.prog X.w) A (.call (.ref f) ⟨[v], []⟩) (CR CX0 X.stack X.prog X.w H1 s1 Q fun _ _ _ => False) s1 := by
  have lim : s1.heap.NoLimit := e0.mod.nolimit.keeps fun b o e => (e0.bs b o e).1
  obtain ⟨pm, ctv, ho⟩ := lamO_at e0.hok hf
  refine PySem.W.kla_callFunE hr.depth ho rfl S.co S.gen rfl (NdefX.codeO_at e0.hok hc) ?_
  rw [hbind]
  refine wpAny_pure (wpAny_newFunctionEnv S.nocell (fun ⟨n, _⟩ hy => S.par n (by
    rw [List.mem_singleton] at hy
    rw [(Prod.mk.inj hy).1]
    exact List.mem_cons_self)) (fun h₁ hns hsb => ⟨lim.fresh _ hsb, ?_⟩) S.kind)
  show codeAny _ _ (.expr body (NdefX.envF (lamF q params scope cl c') f s1.heap.objs.size)) _ _
  have kp : ∀ b o, s1.heap.get? b = some o → h₁.get? b = some o := fun b o e => hsb.extBut b o (Nat.ne_of_lt (Heap.lt_size e)) (Heap.get?_push_of_some _ e)
  have I : Inv (lcx X N q params scope cl c' f A s1 H1) [] (NdefX.startF N [x] (js.map (NdefX.slotAt σ))) H1 { s1 with heap := h₁, toks := s1.toks + ([a].zip [v]).length } :=
    NdefX.inv_startN S hr.hd e0 rfl (.cons rx .nil) (NdefX.cells_of J C) hns kp
  refine PySem.W.kla_codeExpr (wpAny_mono (hbody.run [] _ _ H1 Q I h) (fun u s' hq => ?_) fun e s' hq => hq)
  obtain ⟨w', H', J', rv, z⟩ := hq
  exact ⟨w', H', J'.os, J'.bare, J'.base, J'.hok, rv, z⟩
end
/-! ### the making as an expression; a call of a built-in whose reading knows the names -/
def tLam3 (T : List (Addr × Str)) (q : Str) (params : Arguments) (body : Expr) (scope : Scope) (cl : List (Str × Addr)) : TE := fun σ H Q => Tabs T H ∧ ∀ (f c' : Addr) (H1 : Hp), Made T H H1 → H f = none → H1 f = some (LamO f q params body scope cl c') → H1 c' = some (CodeO c' q) → Q (.ref f) H1
section
variable {X : Cx}
theorem pe_lam {T : List (Addr × Str)} {c P : Addr} {params : Arguments} {body : Expr} {scope : Scope} {pos : Pos} (TB : TabB X.base X.mg c P) (hcode : X.env.code = .ref c) (hm : (P, X.env.qual ++ "<lambda>") ∈ T) (hu : ∀ p ∈ T, p.1 = P → p.2 = X.env.qual ++ "<lambda>") (hdef : defaultsOf params X.env = ([], []))
    (hfree : ∀ y ∈ scope.names, y.2 = .free → X.env.scope.names.lookup y.1 = some .cell ∨ X.env.scope.names.lookup y.1 = some .free) : PE X (.Lambda params body scope pos) (tLam3 T (X.env.qual ++ "<lambda>") params body scope (cloFrom X.env.cells scope.names [])) := by
  refine ⟨fun pins s σ H Q I h => ?_⟩
  obtain ⟨hT, h⟩ := h
  refine lam_mk I TB hcode hm hu hT hdef (fun y hy e => (hfree y hy e).elim (fun z => I.ok.has _ (.inl z)) fun z => I.ok.has _ (.inr z)) fun f c' H1 s' I1 M n1 e1 e2 => ?_
  exact ⟨.ref f, H1, I1, rfl, h f c' H1 M n1 e1 e2⟩
def tCKs (r : L2.St → List V → List V → Hp → VK → Prop) (t tk : TA) : TE := fun σ H Q => t σ H fun vs H1 => tk σ H1 fun zs H2 => r σ vs zs H2 Q
theorem pe_callBKs {x : Str} {p pos : Pos} {e : Expr} {es : List Expr} {kws : List Keyword} {t tk : TA} {id : String} {ks : List Str} {r : L2.St → List V → List V → Hp → VK → Prop}
    (hc : ∀ (pins : List (Addr × Obj)) (s : Shared) (σ : L2.St) (H : Hp) (xs zs : List V) (us ws : List Value) (Q : VK), Inv X pins σ H s → Vals xs us → Vals zs ws → r σ xs zs H Q → wpAny (model X.prog X.w) X.A (call (.builtin id) us (ks.zip ws)) (EP X pins σ Q) X.xe s)
    (hg : Gl X x) (hm : X.mg x = none) (hv : bootBuiltins x = some (.builtin id)) (ha : PA X (e :: es) t) (hk : PK X kws tk) (hn : x ≠ "__name__" := by decide) (hdb : (x == ("__debug__" : Str)) = false := by decide)
    (he : backTo pos (starEach (e :: es) X.env) = (false, eval e X.env) :: backTo pos (starEach es X.env) := by rfl) (hpl : (backTo pos (starEach (e :: es) X.env)).any (·.1) = false := by rfl)
    (hall : (backToKw pos (keywordEach kws X.env)).all (·.1.isSome) = true := by rfl) (hnone : (backToKw pos (keywordEach kws X.env)).any (·.1.isNone) = false := by rfl) (hks : (backToKw pos (keywordEach kws X.env)).filterMap (·.1) = ks := by rfl) :
    PE X (.Call (.Name x p) (e :: es) kws pos) (tCKs r t tk) := by
  refine ⟨fun pins s σ H Q I h => wpAny_Call_Name_kw (ld_blt I hg hm hv ?_ hn hdb)⟩
  refine PyProof.Rows.callWith_kw (thn (ha.run pos pins s σ H _ I h) fun us s1 ⟨vs, H1, I1, r1, q1⟩ => thn (hk.run pos pins s1 σ H1 _ I1 q1) fun ws s2 ⟨zs, H2, I2, r2, q2⟩ => ?_) he hpl hall hnone
  rw [hks]
  exact hc pins s2 σ H2 vs zs us ws Q I2 r1 r2 q2
end
section
variable {K : PySem.W.Frag} {B : Ba} {lv : List (Nat × V)} {st tm : List Vl} {σ : L2.St} {tv : List V} {H H1 : Hp} {F : Addr → Prop} {O : Addr → Option Ow}
/-- behind the making of a lambda -/
theorem RelX.made (R : RelX K B lv st tm σ tv H F O) (M : Made B.T H H1) (hne : B.T ≠ []) : RelX K B lv st tm σ tv H1 F O where
  len := R.len
  sl := fun i d e => (R.sl i d e).imp id fun ⟨v, h1, h2⟩ => ⟨v, h1, h2.keep (fun _ z => z) (fun c o e n _ => M.ke c o e n) (fun _ z => z) (fun c o _ n e => M.ke c o e n)⟩
  tp := R.tp.keep (fun _ z => z) (fun c o e n _ => M.ke c o e n) σ (fun _ _ _ z => z) (fun c o _ _ _ n e => M.ke c o e n) (fun _ _ _ z => z)
  fo := R.fo
  oh := fun c w e => by
    obtain ⟨o, h1, h2⟩ := R.oh c w e
    by_cases n : NT o
    · exact ⟨o, M.ke c o h1 n, h2⟩
    · obtain ⟨ps, ep⟩ := Classical.not_forall.mp n
      rw [Classical.not_not.mp ep] at h1
      obtain ⟨qs, z⟩ := M.kt c ps h1
      exact ⟨_, z, fun y => y⟩
  fh := fun c z y => R.fh c z (M.no c y)
  fr := ⟨fun a o h n t => M.ke a o (R.fr.ke a o h n t) (t.resolve_right hne), fun a ps h n => by
    obtain ⟨qs, z⟩ := R.fr.kt a ps h n
    exact M.kt a qs z, M.tb⟩
  mi := R.mi
  f0 := R.f0
  f1 := R.f1
  lk := R.lk
end
/-- a captured name's slot: frozen data alone is told -/
def frzS (st : List Vl) (j : Nat) : Vl := match st[j]? with
  | some (.fr y) => .fr y
  | _ => .gone
/-- what stands at a lambda's entry -/
theorem lam_rel {K : PySem.W.Frag} {B : Ba} {lv : List (Nat × V)} {st tm : List Vl} {σ : L2.St} {tv : List V} {H : Hp} {F : Addr → Prop} {O : Addr → Option Ow} (R : RelX K B lv st tm σ tv H F O) (js : List Nat) {x : V} {d : PyData} (rd : Rp K F H x d) :
    RelX K ⟨H, fun _ => False, F, [], []⟩ [] (.fr d :: js.map (frzS st)) [] (some x :: js.map (NdefX.slotAt σ)) [] H F (fun _ => none) where
  len := by simp
  sl := fun i y e => by
    cases i with
    | zero =>
      have e : Vl.fr d = y := Option.some.inj e
      subst e
      exact .inr ⟨x, rfl, rd⟩
    | succ i =>
      rw [List.getElem?_cons_succ, List.getElem?_map] at e
      cases ej : js[i]? with
      | none => rw [ej] at e; cases e
      | some j =>
        rw [ej] at e
        have e : frzS st j = y := Option.some.inj e
        unfold frzS at e
        split at e
        · rename_i z hz
          subst e
          rcases R.sl j _ hz with w | ⟨v, h1, h2⟩
          · cases w
          · refine .inr ⟨v, ?_, h2⟩
            rw [List.getElem?_cons_succ, List.getElem?_map, ej]
            exact congrArg some (NdefX.slotAt_of h1)
        · exact .inl e.symm
  tp := trivial
  fo := fun _ _ => rfl
  oh := fun _ _ z => nomatch z
  fh := R.fh
  fr := ⟨fun _ _ e _ _ => e, fun _ ps e _ => ⟨ps, e⟩, fun p hp => absurd hp List.not_mem_nil⟩
  mi := fun _ _ z => nomatch z
  f0 := fun _ z => z
  f1 := fun _ z => .inl z
  lk := fun p hp => absurd hp List.not_mem_nil
/-- sorted(e, key=lambda a: body): the lambda's body over the item and the captured names -/
def SortL (js : List Nat) (tb : DT) (d : Vl) (st : List Vl) (Q : Vl → List Vl → Prop) : Prop := ∃ (kf : PyData → PyData) (xs : List PyData), pyO st d = some (.list xs) ∧ PySem.W.AllAlike (xs.map kf) ∧ PySem.W.Sortable (xs.map kf) ∧ (xs.map kf).all (dep 60) = true ∧
  (∀ x ∈ xs, ∀ Q0 : Vl → List Vl → Prop, (∀ st', Q0 (.fr (kf x)) st') → tb (.fr x :: js.map (frzS st)) Q0) ∧ Q (.ow (xs.mergeSort (PySem.W.dataLe false kf))) st
def cSortL (js : List Nat) (ta tb : DT) : DT := fun st Q => ta st fun d st' => SortL js tb d st' Q
/-- what is known of the table of the running def -/
def LamI (X : Cx) (T : List (Addr × Str)) : Prop := ∃ c P, X.env.code = .ref c ∧ TabB X.base X.mg c P ∧ (P, X.env.qual ++ "<lambda>") ∈ T ∧ ∀ p ∈ T, p.1 = P → p.2 = X.env.qual ++ "<lambda>"
section
variable {X : Cx} {B : Ba} {k : Nat} {lk : List Nat} {e : Expr} {ta tb : DT} {p pos lpos kpos : Pos} {params : Arguments} {body : Expr} {scope : Scope} {a : Str} {fr : List Str} {js : List Nat}
theorem de_sortLam (LM : LamI X B.T) (hr : Room (k + 3) X.A) (hgd : X.A.guards = some []) (hg : Gl X "sorted") (hm : X.mg "sorted" = none) (ha : DE X B lk e ta) (S : NdefX.NScope (a :: fr) [a] fr scope) (hfr : NdefX.ndefB X.env.scope scope fr = true) (hjs : js.map (fun j => X.N[j]?) = fr.map some) (hdef : defaultsOf params X.env = ([], []))
    (hbind : ∀ (q : Str) (cl : List (Str × Addr)) (pm c ctv v : Value), bindArgs (PySem.W.kla_fn "<lambda>" q params body scope cl pm c ctv) ⟨[v], []⟩ = pure [(a, v)])
    (hbody : ∀ (A : Around) (s : Shared) (H : Hp) (f c' : Addr) (B' : Ba), Room k (A.deeper (NdefX.envF (lamF (X.env.qual ++ "<lambda>") params scope (cloFrom X.env.cells scope.names []) c') f s.heap.objs.size)) → A.guards = some [] → DE (lcx X (a :: fr) (X.env.qual ++ "<lambda>") params scope (cloFrom X.env.cells scope.names []) c' f A s H) B' [] body tb)
    (he : starEach [e] X.env = (false, eval e X.env) :: starEach [] X.env := by rfl)
    (he2 : backTo pos (starEach [e] X.env) = (false, eval e X.env) :: backTo pos (starEach [] X.env) := by rfl) (hpl : (backTo pos (starEach [e] X.env)).any (·.1) = false := by rfl) :
    DE X B lk (.Call (.Name "sorted" p) [e] [⟨some "key", .Lambda params body scope lpos, kpos⟩] pos) (cSortL js ta tb) := by
  obtain ⟨c, P, hcode, TB, hmT, hu⟩ := LM
  have hne : B.T ≠ [] := fun z => by rw [z] at hmT; cases hmT
  have hfree := NdefX.ndef_free hfr
  let q := X.env.qual ++ "<lambda>"
  let cl := cloFrom X.env.cells scope.names []
  have hlen : js.length = fr.length := by
    have := congrArg List.length hjs
    rwa [List.length_map, List.length_map] at this
  refine PE.weak (pe_callBKs (id := "sorted") (ks := [Str.ofString "key"]) (r := fun σ vs zs H Q => ∃ (l f c' : Addr) (xs : List V) (lv : List (Nat × V)) (st tm : List Vl) (tv : List V) (F : Addr → Prop) (O : Addr → Option Ow) (kf : PyData → PyData) (ds : List PyData),
      vs = [V.ref l] ∧ zs = [V.ref f] ∧ H f = some (LamO f q params body scope cl c') ∧ H c' = some (CodeO c' q) ∧ RelX X.K B lv st tm σ tv H F O ∧ SqL X.K H l xs ∧ RpA X.K F H xs ds ∧ PySem.W.AllAlike (ds.map kf) ∧ PySem.W.Sortable (ds.map kf) ∧ (ds.map kf).all (dep 60) = true ∧
      (∀ x ∈ ds, ∀ Q0 : Vl → List Vl → Prop, (∀ st', Q0 (.fr (kf x)) st') → tb (.fr x :: js.map (frzS st)) Q0) ∧
      ∀ F' H' ys p, (∀ c o, H c = some o → H' c = some o) → (∀ c, F c → F' c) → (∀ c, F' c → F c ∨ H c = none) → (∀ c, F' c → H' c ≠ none) → RpA X.K F' H' ys (ds.mergeSort (PySem.W.dataLe false kf)) → H' p = none → Q (.ref p) (upd H' p (.lst ys)))
    (fun pins s σ H vs zs us ws Q I r rz h => ?_) hg hm boot_sorted (pa_cons ha pa_nil he) (pk_cons (pe_lam TB hcode hmT hu hdef hfree) pk_nil) (he := he2) (hpl := hpl)) fun σ H Q ⟨lv, st, tm, tv, Q0, L, R, h, kk⟩ => ?_
  · obtain ⟨l, f, c', xs, lv, st, tm, tv, F, O, kf, ds, rfl, rfl, hf, hc, R, hs, ra, hal, hso, hd60, hS, kq⟩ := h
    rw [Vals.ref1 r, Vals.ref1 rz]
    refine sortK_core (k := k + 1) (kf := kf) hr I R.fh hs ra hal hso hd60 (fun e1 v x d F1 H1 s1 KA rx rd hdm => ?_) kq
    have J := KA.inv
    have R1 := R.ext KA.fr KA.f0 KA.f1 KA.fh
    have Cp : NdefX.Caps X cl fr js := NdefX.Caps.made I.ok hfree (NdefX.ndef_fr hfr) hjs
    have est : NdefX.startF (a :: fr) [x] (js.map (NdefX.slotAt σ)) = some x :: js.map (NdefX.slotAt σ) := by
      unfold NdefX.startF
      rw [List.length_cons, List.length_singleton, List.length_map, hlen, show fr.length + 1 - 1 - fr.length = 0 by omega]
      simp
    have hb := hbody X.A.in1.in1 s1 H1 f c' ⟨H1, fun _ => False, F1, [], []⟩ ((hr.in1.in1).deeper _) hgd
    have hl : LE X.K ⟨H1, fun _ => False, F1, [], []⟩ [] tb (NdefX.startF (a :: fr) [x] (js.map (NdefX.slotAt σ))) H1 (fun z H2 => ∃ F2, (∀ c o, H1 c = some o → H2 c = some o) ∧ (∀ c, F1 c → F2 c) ∧ (∀ c, F2 c → F1 c ∨ H1 c = none) ∧ (∀ c, F2 c → H2 c ≠ none) ∧ Rp X.K F2 H2 z (kf d)) := by
      refine ⟨[], .fr d :: js.map (frzS st), [], [], fun r _ => r = .fr (kf d), ⟨fun p hp => absurd hp List.not_mem_nil, fun p hp => hp⟩, ⟨F1, fun _ => none, by rw [est]; exact lam_rel R1 js rd⟩, hS d hdm _ fun _ => rfl, fun r st' z H2 hr2 R2 => ?_⟩
      subst hr2
      obtain ⟨F2, O2, R2⟩ := R2
      refine ⟨F2, fun c o e => R2.fr.ke c o e (fun y => y) (.inr rfl), R2.f0, fun c y => ?_, R2.fh, R2.top (fun i z => by cases z)⟩
      rcases R2.f1 c y with w | w | w
      · exact .inl w
      · exact .inr w
      · exact w.elim
    refine wpAny_call (codeAny_mono (run_lam (q := q) (cl := cl) J (env0_in2 J.env0) hr.in1.in1 (KA.fr _ _ hf) (KA.fr _ _ hc) S Cp (fun pm ctv v => hbind q cl pm (.ref c') ctv v) rx hb hl) fun r s' hq => ?_)
    match r, hq with
    | .error e, hq => exact hq.elim
    | .ok (.ret u), hq =>
      obtain ⟨z, H2, J2, rz2, F2, a1, a2, a3, a4, a5⟩ := J.after hq
      exact ⟨z, F2, H2, ⟨J2, a1, a2, a3, a4⟩, rz2, a5⟩
    | .ok .next, hq => exact False.elim hq
    | .ok .brk, hq => exact False.elim hq
    | .ok .cont, hq => exact False.elim hq
  · refine ⟨lv, st, tm, tv, _, L, R, h, fun d st' v H1 hS R1 => ?_⟩
    obtain ⟨kf, xs, e1, h1, h2, h3, h4, h5⟩ := hS
    obtain ⟨Fz, O, R1⟩ := R1
    refine ⟨R1.fr.tb, fun f c' H2 M n1 hf hc => ?_⟩
    have R2 := R1.made M hne
    obtain ⟨l, vs, rfl, hl, r⟩ := R2.lst e1
    refine ⟨l, f, c', vs, lv, st', d :: tm, V.ref l :: tv, Fz, O, kf, xs, rfl, rfl, hf, hc, R2, hl, r, h1, h2, h3, h4, fun F' H' ys p a1 a2 a3 a4 a5 a6 => ?_⟩
    exact kk _ _ _ _ h5 ⟨F', _, (R2.pop.ext a1 a2 a3 a4).newLst a6 a5⟩
end
section
variable {st : List Vl} {Q : Vl → List Vl → Prop} {js : List Nat} {ta tb : DT}
theorem s_sortL (h : ta st fun d st' => SortL js tb d st' Q) : cSortL js ta tb st Q := h
end
end DL

/-! What the head tells of defs as things and of global tuples (nothing of the data layer is asked, so that the run of the top can come first). -/
namespace DL
open PySem PySem.Spec PyProof.Rows L2
/-! ### the head's facts -/
end DL

/-! A def that makes lambdas, from its body; the law's end with tables. -/
namespace DL
open PySem PySem.Spec PyProof.Rows L2
open LamX
variable {T : List (Addr × Str)}
/-- the code object of the def at f -/
def CodeV (K : PySem.W.Frag) (f : Addr) (qual : Str) (cdv : Value) : Prop := PySem.W.codeIn K cdv qual = true ∧ ∃ oc od fd osl, K.lookup f = some ⟨oc, od, .func fd, osl⟩ ∧ fd.code = cdv
/-- its table -/
def LamC (base : Heap) (mg : Str → Option Value) (T : List (Addr × Str)) (cdv : Value) (q : Str) : Prop := ∃ c P, cdv = .ref c ∧ TabB base mg c P ∧ (P, q) ∈ T ∧ ∀ p ∈ T, p.1 = P → p.2 = q
section
variable {P : Program} {w : World} {K : PySem.W.Frag} {mg : Str → Option Value} {base : Heap} {CX : CXT} {k : Nat} {x qual : Str} {params : Arguments} {body : List Stmt} {scope : Scope} {dvs : List V} {kws : List (Str × V)} {f : Addr} {fd : FuncData}
theorem fn_ofGL {N ps : List Str} {sp : Sp} (F : FunD K x qual params body scope dvs kws f fd) (S : FnScope N ps scope) (len : ∀ vs H Q E, sp vs H Q E → vs.length = ps.length)
    (hbody : ∀ (cdv : Value), CodeV K f qual cdv → ∀ (A : Around) (outer : List Env) (s : Shared) (H : Hp) (vs : List V) (Q : VK) (E : XK), Room k (A.deeper (envOfC qual scope s.heap.objs.size f cdv)) → A.guards = some [] → sp vs H Q E →
      ∃ t, PSs (cxOf CX P w K mg base N qual scope f cdv A outer s H E) body t ∧ t { nx := fun _ H' => Q .non H', rt := Q } (start N vs) H) : FnG P w K mg base CX (k + 1) f fd ps sp := by
  obtain ⟨oc, od, dV, kV, doc, pm, an, cdv, ct, osl, rfl, lk, hcd, _, _⟩ := F.ex
  refine ⟨len, fun A outer s H args us vs Q E hr hgd e0 hb r hsp => ?_⟩
  have hl := len _ _ _ _ hsp
  have KX : K.In s.heap := e0.mod.kin.keeps fun b o e => (e0.bs b o e).1
  have lim : s.heap.NoLimit := e0.mod.nolimit.keeps fun b o e => (e0.bs b o e).1
  have hkind : ∀ y ∈ ps.zip us, scope.names.lookup y.1 = some .local ∨ (scope.names.lookup y.1 = some .cell ∧ ((cellsFrom (s.heap.objs.size + 1) scope.names []).lookup y.1).isSome = true) := fun ⟨n, v⟩ hy =>
    (S.par n (List.of_mem_zip hy).1).imp id fun q => ⟨q, PySem.W.cellsFrom_some _ _ _ (.inl q)⟩
  refine codeAny_call_function hr.depth (KX _ _ lk) rfl S.co S.gen rfl (PySem.W.codeRec_of KX hcd) (hb _ _ _ _ ?_)
  refine wpAny_newFunctionEnv_cells S.kind hkind fun env he s1 x => ?_
  subst he
  refine ⟨lim.keeps x.toInCall.keep, codeAny_func ?_⟩
  obtain ⟨t, ht, hq⟩ := hbody cdv ⟨hcd, oc, od, _, osl, lk, rfl⟩ A outer s H vs Q E (hr.deeper _) hgd hsp
  have I : Inv (cxOf CX P w K mg base N qual scope f cdv A outer s H E) [] (start N vs) H s1 := inv_start S hr.hd e0 hl r x
  refine wpAny_mono (ht.run [] s1 (start N vs) H _ I hq) (fun fl s' hs => ?_) fun e s' hs => hs
  match fl, hs with
  | .ret u, ⟨v, σ', H', J, rv, q⟩ => exact ⟨v, H', J.os, J.bare, J.base, J.hok, rv, q⟩
  | .next, ⟨σ', H', J, q⟩ => exact ⟨.non, H', J.os, J.bare, J.base, J.hok, rfl, q⟩
  | .brk, ⟨_, _, _, q⟩ => exact False.elim q
  | .cont, ⟨_, _, _, q⟩ => exact False.elim q

theorem def_runL {N ps : List Str} {lk : List Nat} {n : Nat} {S : VSp} (F : FunD K x qual params body scope dvs kws f fd) (Sc : FnScope N ps scope) (hn : ps.length = n) (hN : n ≤ N.length)
    (t : DTS) (hbody : ∀ (cdv : Value), CodeV K f qual cdv → ∀ (A : Around) (outer : List Env) (s : Shared) (H : Hp) (E : XK) (B : Ba), Room k (A.deeper (envOfC qual scope s.heap.objs.size f cdv)) → A.guards = some [] → DSs (cxOf CX P w K mg base N qual scope f cdv A outer s H E) (B.wT T) lk body t)
    (read : ∀ ds Q0 E0, S ds Q0 E0 → t (dEnds Q0) (ds ++ List.replicate (N.length - n) .gone)) : FnG P w K mg base CX (k + 1) f fd ps (spV T K mg lk n S) := by
  refine fn_ofGL F Sc (fun vs H Q E h => h.1.trans hn.symm) fun cdv hcv A outer s H vs Q E hr hgd h => ?_
  obtain ⟨hl, F0, O0, ds, Q0, E0, pre, hS, kQ, kE⟩ := h
  let B : Ba := ⟨H, fun a => O0 a ≠ none, F0, lvs lk vs, T⟩
  refine ⟨_, hbody cdv hcv A outer s H E B hr hgd, ?_⟩
  have hlen : ds.length = n := pre.len.trans hl
  have hs : ∀ i v, vs[i]? = some v → (start N vs)[i]? = some (some v) := fun i v e => by
    have hi := (List.getElem?_eq_some_iff.mp e).1
    unfold L2.start
    rw [List.getElem?_append_left (by rw [List.length_map]; exact hi), List.getElem?_map, e]; rfl
  have R : RelX K B (lvs lk vs) (ds ++ List.replicate (N.length - n) .gone) [] (start N vs) [] H F0 (fun a => (O0 a).map Sum.inl) := by
    refine ⟨?_, fun i d e => ?_, (trivial : True), fun a fa => ?_, fun a w e => ?_, pre.fh, ⟨fun a o e _ _ => e, fun a ps e _ => ⟨ps, e⟩, pre.tb⟩, fun a w e => ?_, fun a fa => fa, fun a fa => .inl fa, fun p hp => hs _ _ (lvs_in hp).2⟩
    · unfold L2.start
      rw [List.length_append, List.length_append, List.length_map, List.length_replicate, List.length_replicate, hlen, hl]
    · by_cases hi : i < ds.length
      · rw [List.getElem?_append_left hi] at e
        have hv : i < vs.length := by rw [hl, ← hlen]; exact hi
        rcases pre.av i d _ e (List.getElem?_eq_getElem hv) with z | z
        · exact .inl z
        · exact .inr ⟨_, hs i _ (List.getElem?_eq_getElem hv), z⟩
      · rw [List.getElem?_append_right (Nat.not_lt.mp hi), List.getElem?_replicate] at e
        split at e
        · cases e; exact .inl rfl
        · cases e
    · rw [pre.fo a fa]; rfl
    · obtain ⟨i, ei, _⟩ := Option.map_eq_some_iff.mp e
      exact pre.oh a i ei
    · obtain ⟨i, ei, _⟩ := Option.map_eq_some_iff.mp e
      exact .inl (show O0 a ≠ none by rw [ei]; exact fun z => nomatch z)
  -- behind the body
  have post : ∀ st' σ' (tm : List Vl) (tv : List V) H' F' O', RelX K B (lvs lk vs) st' tm σ' tv H' F' O' → Post K T F0 O0 vs H lk st' H' F' O' := fun st' σ' tm tv H' F' O' R' =>
    ⟨fun i hi d v e1 e2 => by
      rcases R'.sl i d e1 with z | ⟨u, h1, h2⟩
      · exact .inl z
      · have := R'.lk _ (lvs_of hi e2)
        rw [h1] at this
        cases this
        exact .inr h2,
    R'.fo, R'.oh, R'.fh, R'.fr, fun a w e => R'.mi a w e, R'.f0, fun a fa => by
      rcases R'.f1 a fa with z | z | z
      · exact .inl z
      · exact .inr (.inl z)
      · exact .inr (.inr z)⟩
  refine ⟨lvs lk vs, _, [], [], dEnds Q0, ⟨fun p hp => (lvs_in hp).1, fun p hp => hp⟩, (fun i hi => absurd hi List.not_mem_nil), ⟨F0, _, R⟩, read ds Q0 E0 hS, ⟨fun st' σ' H' q ⟨F', O', R'⟩ => ?_, fun d st' v σ' H' q ⟨F', O', R'⟩ => ?_, fun _ _ _ z => z.elim, fun _ _ _ z => z.elim⟩⟩
  · exact kQ (.fr .none) st' .non H' F' O' q (post _ _ _ _ _ _ _ R') .non
  · exact kQ d st' v H' F' O' q.2 (post _ _ _ _ _ _ _ R') (R'.top q.1)
end
/-! ### the law's end with tables -/
theorem lawSpT {K : PySem.W.Frag} {mg : Str → Option Value} {lk : List Nat} {n : Nat} {H : Hp} {a : Addr} {ns : List Int} (hl : ns.length ≤ n) (h : ScrAt K H a ns) (hT : Tabs T H) : spV T K mg lk 1 (lawS n) [.ref a] H (fun v _ => v = .bl true) (fun _ _ _ => False) := by
  refine ⟨rfl, fun _ => False, fun _ => none, [.scr ns], fun r _ => r = .fr (.bool true), fun _ _ => False, ⟨rfl, fun i d v e1 e2 => ?_, fun _ z => z.elim, fun _ z => z.elim, fun _ _ z => (by cases z), hT⟩, ⟨ns, hl, rfl, fun _ => rfl⟩, fun r ds' v H' F' O' q _ hv => ?_, fun _ _ _ _ _ _ _ z => z.elim⟩
  · cases i with
    | zero =>
      cases e1
      cases e2
      exact .inr ⟨a, rfl, h⟩
    | succ i => cases e1
  · subst q
    have hv : Rp K F' H' v (.bool true) := hv
    cases hv
    rfl
/-- an object with no table's look and no list's is not hidden -/
theorem law_callGT {P : Program} {w : World} {K : PySem.W.Frag} {mg mb : Str → Option Value} {CX : CXT} {k n : Nat} {fa a : Addr} {cs : List (Addr × Addr)} {fd : FuncData} {x : Str} {lk : List Nat} {s₁ : Shared} {vs : List Value} {ns : List Int}
    (KX : K.In s₁.heap) (hns : s₁.heap.Ns mainGlobals mg) (hb : s₁.heap.Ns builtinsNs mb) (hbb : ∀ x : Str, x ≠ "__name__" → mb x = bootBuiltins x) (hlim : s₁.heap.NoLimit) (hg : s₁.gens = #[])
    (hT : ∀ p ∈ cs, s₁.heap.get? p.2 = some { cls := .none, data := .fields #[] }) (nT : ∀ p ∈ cs, K.lookup p.2 = none) (C : ∀ p ∈ cs, PySem.W.CodeHd s₁.heap p.1 p.2) (hTT : ∀ t ∈ T, ∃ p ∈ cs, p.2 = t.1)
    (hbm : ∃ (bm : Addr) (ob : Obj), mg "__builtins__" = some (.ref bm) ∧ bm ≠ builtinsNs ∧ s₁.heap.get? bm = some ob ∧ ob.cls = .type "module" ∧ ob.dict = some builtinsNs ∧ ob.data = .plain)
    (ha : s₁.heap.get? a = some { cls := .type "list", data := .seq vs.toArray }) (hi : IntsAre vs ns) (hl : ns.length ≤ sizeLine) (hln : ns.length ≤ n) (hr : Room k callerA)
    (F : ∀ base : Heap, K.In base → base.Ns mainGlobals mg → (∀ p ∈ cs, TabB base mg p.1 p.2) → FnG P w K mg base CX k fa fd [x] (spV T K mg lk 1 (lawS n))) (hbind : ∀ (s : Shared) (u : Value), BindsTo s fd ⟨[u], []⟩ [(x, u)])
    (hCX : ∀ H e s', CX [] H s₁ (fun _ _ _ => False) e s' → False) :
    codeAny (model P w) callerA (.call (.ref fa) ⟨[.ref a], []⟩) (fun r s' => r = .ok (.ret (.bool true)) ∧ OldK s₁.heap s'.heap ∧ s'.os = s₁.os ∧ AllBare s'.gens) s₁ := by
  have rv := vals_ints hi
  have lenV := hi.length
  have aT : ∀ p ∈ cs, p.2 ≠ a := fun p hp z => by
    have e := hT p hp
    rw [z, ha] at e
    exact Data.noConfusion (congrArg Obj.data (Option.some.inj e))
  have core : ∀ H : Hp, (∀ p ∈ cs, H p.2 = some (.tbl #[])) → (∀ b, H b ≠ none → b = a ∨ ∃ p ∈ cs, p.2 = b) → (∀ u, H a = some u → ∃ o xs, u = .frz o (.lst xs)) → ScrAt K H a ns → HOk P w H s₁.heap → (H a ≠ none → K.lookup a = none) →
      codeAny (model P w) callerA (.call (.ref fa) ⟨[.ref a], []⟩) (fun r s' => r = .ok (.ret (.bool true)) ∧ OldK s₁.heap s'.heap ∧ s'.os = s₁.os ∧ AllBare s'.gens) s₁ := by
    intro H hH hA hZ hS hok hK
    -- what looks like neither is not tracked
    have free : ∀ {b : Addr} {o : Obj}, s₁.heap.get? b = some o → (∀ vs n, o.data ≠ .seq vs n) → o.data ≠ .fields #[] → H b = none := fun {b o} e h1 h2 => by
      cases q : H b with
      | none => rfl
      | some u =>
        rcases hA b (by rw [q]; exact fun z => nomatch z) with z | ⟨p, hp, z⟩
        · subst z
          rw [ha] at e
          exact absurd (congrArg Obj.data (Option.some.inj e)).symm (h1 _ _)
        · subst z
          rw [hT p hp] at e
          exact absurd (congrArg Obj.data (Option.some.inj e)).symm h2
    have nsK : ∀ {b : Addr} {m : Str → Option Value}, s₁.heap.Ns b m → (hidT s₁.heap H).Ns b m := fun {b m} ⟨o, es, ep, e, d, r⟩ => ⟨o, es, ep, hidT_get e (free e (fun vs n z => by rw [d] at z; cases z) fun z => by rw [d] at z; cases z), d, r⟩
    have hKb : K.In (hidT s₁.heap H) := fun b o e => hidT_get (KX b o e) (by
      cases q : H b with
      | none => rfl
      | some u =>
        rcases hA b (by rw [q]; exact fun z => nomatch z) with z | ⟨p, hp, z⟩
        · subst z
          rw [hK (by rw [q]; exact fun z => nomatch z)] at e; cases e
        · subst z
          rw [nT p hp] at e; cases e)
    have hM : Mod K mg (hidT s₁.heap H) := ⟨hKb, nsK hns, ⟨mb, nsK hb, hbb⟩, let ⟨mc, h1, h2⟩ := hlim; ⟨mc, nsK h1, h2⟩⟩
    have TB : ∀ p ∈ cs, TabB (hidT s₁.heap H) mg p.1 p.2 := fun p hp => by
      have eT := hT p hp
      refine ⟨?_, ?_, fun z => ?_⟩
      · obtain ⟨o, us, f1, f2, f3, f4, f5, f6, f7, e1, r1, r2, r3, rest⟩ := C p hp
        refine ⟨o, us, f1, f2, f3, f4, f5, f6, f7, hidT_get e1 (free e1 (fun vs n z => by rw [r2] at z; cases z) fun z => ?_), r1, r2, r3, rest⟩
        rw [r2] at z
        cases z
        cases r3
      · obtain ⟨bm, ob, b1, b2, b3, b4, b5, b6⟩ := hbm
        refine ⟨bm, ob, b1, b2, fun z => ?_, fun z => ?_, hidT_get b3 (free b3 (fun vs n z => by rw [b6] at z; cases z) fun z => by rw [b6] at z; cases z), b4, b5, b6⟩
        · obtain ⟨o, es, ep, e, d, _⟩ := hns
          rw [z, e] at b3
          cases b3
          rw [d] at b6; cases b6
        · rw [z, eT] at b3
          cases b3
          cases b6
      · obtain ⟨o, es, ep, e, d, _⟩ := hns
        rw [z, eT] at e
        cases e
        cases d
    have e0 : Env0 P w K mg (hidT s₁.heap H) callerA [] s₁ H := ⟨rfl, hM, fun b o e => of_hidT e, Nat.le_of_eq (hidT_size _ _), trivial, (fun b hb => absurd hb List.not_mem_nil), hok, .of_eq hg⟩
    have tabs : Tabs T H := fun t ht => by
      obtain ⟨p, hp, z⟩ := hTT t ht
      exact TabS.nil (by rw [← z]; exact hH p hp)
    refine codeAny_mono ((F _ hKb (nsK hns) TB).run callerA [] s₁ H ⟨[.ref a], []⟩ [.ref a] [.ref a] _ _ hr rfl e0 (hbind s₁ (.ref a)) (.cons rfl .nil) (lawSpT hln hS tabs)) fun r s' h => ?_
    match r, h with
    | .error e, h => exact (hCX H e s' h).elim
    | .ok .next, h => exact False.elim h
    | .ok .brk, h => exact False.elim h
    | .ok .cont, h => exact False.elim h
    | .ok (.ret u), ⟨v, H', os, bare, un, hok', r', q⟩ =>
      obtain rfl : v = .bl true := q
      obtain rfl : u = Value.bool true := r'
      have stays : ∀ b o, (∀ p ∈ cs, p.2 ≠ b) → s₁.heap.get? b = some o → s'.heap.get? b = some o := fun b o nb e => by
        cases q : H b with
        | none => exact un.keep b o e q (fun z => by cases z) (fun z => by cases z)
        | some u =>
          rcases hA b (by rw [q]; exact fun z => nomatch z) with z | ⟨p, hp, z⟩
          · subst z
            obtain ⟨ob, xs, rfl⟩ := hZ u q
            obtain ⟨e1, _⟩ := hok b _ q
            obtain ⟨e2, _⟩ := hok' b _ (un.frzs b ob _ q)
            rw [e] at e1; cases e1
            exact e2
          · exact absurd z (nb p hp)
      refine ⟨rfl, ⟨fun b o e => ?_, fun b o e => ?_⟩, os, bare⟩
      · by_cases hbc : ∃ p ∈ cs, p.2 = b
        · obtain ⟨p, hp, rfl⟩ := hbc
          obtain ⟨more, z⟩ := un.tbls p.2 #[] (hH p hp)
          rw [hT p hp] at e
          cases e
          exact .inr (.inl ⟨((C p hp).tab (hT p hp)).isCodeTable, rfl, #[], #[] ++ more, rfl, by rw [← Array.append_assoc, Array.append_empty]; exact hok' p.2 _ z⟩)
        · exact .inl (stays b o (fun p hp z => hbc ⟨p, hp, z⟩) e)
      · by_cases hbc : ∃ p ∈ cs, p.2 = b
        · obtain ⟨p, hp, rfl⟩ := hbc
          obtain ⟨more, z⟩ := un.tbls p.2 #[] (hH p hp)
          exact ⟨_, hok' p.2 _ z⟩
        · exact ⟨o, stays b o (fun p hp z => hbc ⟨p, hp, z⟩) e⟩
  let isT : Addr → Prop := fun b => ∃ p ∈ cs, p.2 = b
  have tblOk : ∀ (H : Hp) (b : Addr), isT b → ObjOk P w H s₁.heap b (.tbl #[]) := fun H b ⟨p, hp, z⟩ => by
    subst z
    exact hT p hp
  have naT : ¬ isT a := fun ⟨p, hp, z⟩ => aT p hp z
  cases hk : K.lookup a with
  | some o =>
    have e := KX a o hk
    rw [ha] at e
    cases e
    have hna : (fun b => if isT b then some (HO.tbl #[]) else none : Hp) a = none := if_neg naT
    refine core (fun b => if isT b then some (.tbl #[]) else none) (fun p hp => if_pos ⟨p, hp, rfl⟩) (fun b z => .inr (Classical.byContradiction fun y => z (if_neg y))) (fun u z => ?_) (.inr ⟨_, vs.toArray, _, hk, rfl, rfl, rfl, by rw [List.size_toArray, lenV]; exact hl, by simpa using rv⟩) (fun b u z => ?_) fun z => absurd hna z
    · cases hna.symm.trans z
    · have z : (if isT b then some (HO.tbl #[]) else none) = some u := z
      split at z
      · rename_i hb
        cases z
        exact tblOk _ b hb
      · cases z
  | none =>
    refine core (fun b => if b = a then some (.frz { cls := .type "list", data := .seq vs.toArray } (.lst (ns.map V.int))) else if isT b then some (.tbl #[]) else none) (fun p hp => (if_neg (aT p hp)).trans (if_pos ⟨p, hp, rfl⟩)) (fun b z => ?_) (fun u z => ?_) (.inl ⟨_, if_pos rfl⟩) (fun b u z => ?_) fun _ => hk
    · by_cases hb : b = a
      · exact .inl hb
      · exact .inr (Classical.byContradiction fun y => z ((if_neg hb).trans (if_neg y)))
    · cases (if_pos rfl).symm.trans z
      exact ⟨_, _, rfl⟩
    · by_cases hb : b = a
      · have z' := (if_pos hb).symm.trans z
        cases z'
        subst hb
        exact ⟨ha, by rw [List.length_map]; exact hl, vs, _, rv, ha⟩
      · have z1 := (if_neg hb).symm.trans z
        by_cases hb2 : isT b
        · cases (if_pos hb2).symm.trans z1
          exact tblOk _ b hb2
        · cases (if_neg hb2).symm.trans z1
theorem walk_ofGT {l : PySem.W.OpenLaw} {n k : Nat} {q : Program} {loose : List Str} {XP : (Str → Option Value) → Heap → Prop} {YP : World → Heap → Prop} {d : DefRec} {CX : CXT} {x : Str} {lk : List Nat}
    (hn : l.most = some n) (hn2 : n ≤ sizeLine) (hdf : d.params.defaults = []) (hr : Room k callerA)
    (F : ∀ (w : World) (mg : Str → Option Value) (fa : Addr) (h : Heap), YP w h → h.Ns mainGlobals mg → mg d.name = some (.ref fa) →
      ∃ (K : PySem.W.Frag) (fd : FuncData) (cs : List (Addr × Addr)) (T : List (Addr × Str)), K.In h ∧ (∀ (s : Shared) (u : Value), BindsTo s fd ⟨[u], []⟩ [(x, u)]) ∧
        (∀ p ∈ cs, h.get? p.2 = some { cls := .none, data := .fields #[] }) ∧ (∀ p ∈ cs, K.lookup p.2 = none) ∧ (∀ p ∈ cs, PySem.W.CodeHd h p.1 p.2) ∧ (∀ t ∈ T, ∃ p ∈ cs, p.2 = t.1) ∧
        ∀ base : Heap, K.In base → base.Ns mainGlobals mg → (∀ p ∈ cs, TabB base mg p.1 p.2) → FnG l.prog w K mg base CX k fa fd [x] (spV T K mg lk 1 (lawS n)))
    (hCX : ∀ (H : Hp) (s : Shared) (e : Value) (s' : Shared), CX [] H s (fun _ _ _ => False) e s' → False) :
    PySem.W.WalkO q loose XP YP l.row.toRowW d [] (fun f vs => PySem.call f vs) := by
  refine Att.attach_callB hn hdf fun w s₀ s₁ mg mb fa o pm cd doc a vs ns G Y ho hd hcd hmg hobj hints hlen hbits hg => ?_
  obtain ⟨K, fd, cs, T, KX, hb, h1, h2, h3, h4, hF⟩ := F w mg fa _ Y G.T.g hmg
  exact law_callGT KX G.T.g G.T.b G.T.builtins G.T.nolimit hg h1 h2 h3 h4 G.T.bmain hobj hints (Nat.le_trans hlen hn2) hlen hr hF hb fun H e s' => hCX H s₁ e s'
/-- the table of a def that makes lambdas, as the head tells of it -/
theorem lamC_of {base : Heap} {K : PySem.W.Frag} {mg : Str → Option Value} {cdv : Value} {f : Addr} {p : He.Defn} {q qual : Str} (hc : CodeV K f qual cdv) (hf : f = He.fAd K p) (TB : TabB base mg (He.cT K p).1 (He.cT K p).2) (hm : ((He.cT K p).2, q) ∈ T) (hu : ∀ t ∈ T, t.1 = (He.cT K p).2 → t.2 = q) : LamC base mg T cdv q := by
  obtain ⟨hcd, oc, od, fd, osl, lk, rfl⟩ := hc
  obtain ⟨c, e⟩ := He.codeIn_ref hcd
  have ec : (He.cT K p).1 = c := He.codeOf_eq (by rw [← hf]; exact lk) e
  exact ⟨c, (He.cT K p).2, e, by rw [← ec]; exact TB, hm, hu⟩
end DL

/-! sorted(set(..)) of whole numbers. -/
namespace DL
open PySem PySem.Spec PyProof.Rows PySem.Calls L2
/-! ### strictly sorted, each thing once -/
section
variable {α : Type} [DecidableEq α]
structure Sto (lt : α → α → Bool) : Prop where
  irr : ∀ a, lt a a = false
  tr : ∀ a b c, lt a b = true → lt b c = true → lt a c = true
  tot : ∀ a b, lt a b = true ∨ a = b ∨ lt b a = true
end
section
variable {P : Program} {w : World} {A : Around} {E : Value → Shared → Prop} {s : Shared}
end
section
variable {X : Cx} {B : Ba} {K : PySem.W.Frag} {lk : List Nat} {e : Expr} {es : List Expr} {t : DTA} {p p2 pos pos2 : Pos}
end
end DL

/-! list.index of tuples, tuple.index of numbers. -/
namespace DL
open PySem PySem.Spec PyProof.Rows L2
open AutoSeq1 (wpAny_loadPart')
theorem lay_ints : ∀ xs : List Int, PyData.canLayAll0 (xs.map PyData.int) = true
  | [] => by simp [PyData.canLayAll0]
  | x :: xs => by simp [PyData.canLayAll0, PyData.canLay0, lay_ints xs]
theorem lay_pt (xs : List Int) : (pt xs).canLay0 = true := by
  have := lay_ints xs
  simp [pt, PyData.canLay0, this]
theorem lay_pts : ∀ ps : List (List Int), PyData.canLayAll0 (ps.map pt) = true
  | [] => by simp [PyData.canLayAll0]
  | p :: ps => by simp [PyData.canLayAll0, lay_pt p, lay_pts ps]
theorem nd_pts (ps : List (List Int)) : ndA (ps.map pt) = true := dep_ndA (k := 60) (by rw [List.all_map]; exact List.all_eq_true.mpr fun x _ => dep_pt60 x)
def cont (tup : Bool) (ds : List PyData) : PyData := if tup then .tuple ds else .list ds
def IxOk (ds : List PyData) (d : PyData) (j : Nat) : Prop := PyData.canLayAll0 ds = true ∧ d.canLay0 = true ∧ dep 60 d = true ∧ ndA ds = true ∧ (∃ z, ds[j]? = some z ∧ PyData.eqv z d = true) ∧ ∀ (m : Nat) (z' : PyData), m < j → ds[m]? = some z' → PyData.eqv z' d = false
def rIxQ (K : PySem.W.Frag) (tup : Bool) : V → List V → Hp → VK → Prop := fun x xs H Q => ∃ (a : Addr) (y : V) (d : PyData) (ds : List PyData) (j : Nat), x = V.ref a ∧ xs = [y] ∧ Dq K H (V.ref a) (cont tup ds) ∧ Dq K H y d ∧ IxOk ds d j ∧ Q (.int (j : Nat)) H
section
variable {X : Cx}
theorem mt_ixQL (hu : Un0 X) : MtR X "list.index" (rIxQ X.K false) := by
  intro pins s σ H x xs v us Q I rx rxs h
  obtain ⟨a, y, d, ds, j, rfl, rfl, hl, hy, ⟨sl, sd, dd0, nn, ⟨z, hz, hzj⟩, hno⟩, q⟩ := h
  have hl : Dq X.K H (V.ref a) (.list ds) := hl
  have hu : X.A.units + 100 < cLine := hu
  cases rx
  cases rxs with
  | cons ry rt =>
    rename_i uy ut
    cases rt
    obtain ⟨bs, r1⟩ := Dq.reads I d y uy (dep_nd _ _ dd0) hy ry
    have hroom : X.A.units + 1 + min (PyData.depthAll ds) d.depth < cLine := by
      have := (dep_ok 60 d dd0).2
      have : min (PyData.depthAll ds) d.depth ≤ d.depth := Nat.min_le_right _ _
      omega
    cases hl with
    | lst hs ha =>
      obtain ⟨its, rv, ⟨⟨cls, dd, data, sls⟩, n, ho, hc, hdn, hdt⟩, hlen⟩ := I.list hs
      simp only at hc hdt
      subst hc hdt
      obtain ⟨as, h4⟩ := Dq.readsAll I ds _ its nn ha rv
      have hmap : its.map (SeqAt.readOf s.heap) = ds := SeqAt.readsAll_map ds its as sl h4
      have hn : its.length = ds.length := by rw [← hmap, List.length_map]
      have hvl := rv.length
      have hsl := sizeLine_eq
      obtain ⟨hjd, _⟩ := List.getElem?_eq_some_iff.mp hz
      have hjl : j < its.length := by omega
      have hj : j < its.toArray.size := by simpa using hjl
      have at_ : ∀ (m : Nat) (hm : m < its.toArray.size) (z' : PyData), ds[m]? = some z' → SeqAt.readOf s.heap its.toArray[m] = z' := by
        intro m hm z' hz'
        have hml : m < its.length := by simpa using hm
        rw [← hmap, List.getElem?_map, List.getElem?_eq_getElem hml] at hz'
        have e1 : SeqAt.readOf s.heap its[m] = z' := Option.some.inj (show some (SeqAt.readOf s.heap its[m]) = some z' from hz')
        simpa using e1
      refine call_meets PySem.F.slot_list_index ⟨_, ho, rfl⟩ PySem.F.entry_list_index (PySem.F.args_list_index_2 _ _)
        (SeqAt.list_indexAt a its.toArray n dd sls uy (fun u => PyData.eqv (SeqAt.readOf s.heap u) d) j hj (by omega) ?_ ?_) ⟨ho, SeqAt.items_eqAt (vs := its.toArray) (show ReadsAll s.heap its.toArray.toList ds as from h4) r1 sl sd hroom, ?_⟩
      · show PyData.eqv (SeqAt.readOf s.heap its.toArray[j]) d = true
        rw [at_ j hj z hz]
        exact hzj
      · intro m hm hmj
        have hmd : m < ds.length := by omega
        have hz' : ds[m]? = some ds[m] := List.getElem?_eq_getElem hmd
        show PyData.eqv (SeqAt.readOf s.heap its.toArray[m]) d = false
        rw [at_ m hm _ hz']
        exact hno m _ hmj hz'
      · exact ⟨.int (j : Nat), H, I.tok _, ⟨_, rfl⟩, q⟩
theorem mt_ixQT (hu : Un0 X) : MtR X "tuple.index" (rIxQ X.K true) := by
  intro pins s σ H x xs v us Q I rx rxs h
  obtain ⟨a, y, d, ds, j, rfl, rfl, hl, hy, ⟨sl, sd, dd0, nn, ⟨z, hz, hzj⟩, hno⟩, q⟩ := h
  have hl : Dq X.K H (V.ref a) (.tuple ds) := hl
  have hu : X.A.units + 100 < cLine := hu
  cases rx
  cases rxs with
  | cons ry rt =>
    rename_i uy ut
    cases rt
    obtain ⟨bs, r1⟩ := Dq.reads I d y uy (dep_nd _ _ dd0) hy ry
    have hroom : X.A.units + 1 + min (PyData.depthAll ds) d.depth < cLine := by
      have := (dep_ok 60 d dd0).2
      have : min (PyData.depthAll ds) d.depth ≤ d.depth := Nat.min_le_right _ _
      omega
    cases hl with
    | tup hs ha =>
      obtain ⟨its, rv, pl, hlen⟩ := I.tuple hs
      obtain ⟨⟨cls, dd, data, sls⟩, ho, hc, n, hdt⟩ := pl
      simp only at hc hdt
      subst hc hdt
      obtain ⟨as, h4⟩ := Dq.readsAll I ds _ its nn ha rv
      have hmap : its.map (SeqAt.readOf s.heap) = ds := SeqAt.readsAll_map ds its as sl h4
      have hn : its.length = ds.length := by rw [← hmap, List.length_map]
      obtain ⟨hjd, _⟩ := List.getElem?_eq_some_iff.mp hz
      have hjl : j < its.length := by omega
      have hj : j < its.toArray.size := by simpa using hjl
      have at_ : ∀ (m : Nat) (hm : m < its.toArray.size) (z' : PyData), ds[m]? = some z' → SeqAt.readOf s.heap its.toArray[m] = z' := by
        intro m hm z' hz'
        have hml : m < its.length := by simpa using hm
        rw [← hmap, List.getElem?_map, List.getElem?_eq_getElem hml] at hz'
        have e1 : SeqAt.readOf s.heap its[m] = z' := Option.some.inj (show some (SeqAt.readOf s.heap its[m]) = some z' from hz')
        simpa using e1
      refine call_meets PySem.F.slot_tuple_index ⟨_, ho, rfl⟩ PySem.F.entry_tuple_index (PySem.F.args_tuple_index_2 _ _)
        (TI.tuple_indexAt a its.toArray n dd sls uy (fun u => PyData.eqv (SeqAt.readOf s.heap u) d) j hj ?_ ?_) ⟨ho, SeqAt.items_eqAt (vs := its.toArray) (show ReadsAll s.heap its.toArray.toList ds as from h4) r1 sl sd hroom, ?_⟩
      · show PyData.eqv (SeqAt.readOf s.heap its.toArray[j]) d = true
        rw [at_ j hj z hz]
        exact hzj
      · intro m hm hmj
        have hmd : m < ds.length := by omega
        have hz' : ds[m]? = some ds[m] := List.getElem?_eq_getElem hmd
        show PyData.eqv (SeqAt.readOf s.heap its.toArray[m]) d = false
        rw [at_ m hm _ hz']
        exact hno m _ hmj hz'
      · exact ⟨.int (j : Nat), H, I.tok _, ⟨_, rfl⟩, q⟩
end
section
variable {X : Cx} {B : Ba} {lk : List Nat} {o e : Expr} {to te : DT} {apos cpos : Pos}
/-! exact tuples: their objects bear no dict -/
abbrev xt (ds : List PyData) : PyData := .dict [(.none, .tuple ds)]
def tEx : V → Hp → Prop := fun x H => ∃ (a : Addr) (o : Obj) (xs : List V), x = .ref a ∧ H a = some (.frz o (.tup xs)) ∧ o.dict = none
def tBME (r : V → List V → Hp → VK → Prop) (to : TE) (t : TA) : TE := fun σ H Q => to σ H fun x H1 => tEx x H1 ∧ t σ H1 fun xs H2 => r x xs H2 Q
theorem pe_bmE {es : List Expr} {t : TA} {to : TE} {name : Str} {id : String} {r : V → List V → Hp → VK → Prop} (pa : PlainAttrs "tuple") (slot : Slot "tuple" name id) (hty : typeOf (.builtin id) = pure (.type "method_descriptor")) (hm : MtR X id r) (ho : PE X o to) (ha : PA X (e :: es) t)
    (hbase : attributeBase o name X.env (eval o X.env) = eval o X.env := by rfl)
    (hfew : ((backTo cpos (starEach (e :: es) X.env)).all (fun x => !x.1) && (backToKw cpos (keywordEach [] X.env)).all (fun x => x.1.isSome)
      && decide ((e :: es).length + ([] : List Keyword).length + (if ([] : List Keyword).isEmpty then 0 else 1) < 30)) = true := by rfl)
    (hline : (apos.endLine == cpos.line) = true := by rfl) (hs : starEach (e :: es) X.env = (false, eval e X.env) :: starEach es X.env := by rfl) (hplain : (backTo cpos (starEach es X.env)).any (·.1) = false := by rfl) :
    PE X (.Call (.Attribute o name apos) (e :: es) [] cpos) (tBME r to t) := by
  refine ⟨fun pins s σ H Q I h => ?_⟩
  refine wpAny_Call_method_late hbase hfew hline rfl (thn (ho.run pins s σ H _ I h) fun v s1 ⟨x, H1, I1, r1, ty, q1⟩ => ?_)
  obtain ⟨a, ob, xs, rfl, h1, h2⟩ := ty
  have r2 := r1
  cases r1
  obtain ⟨g1, z, its, rv, o', g2, g3, g4⟩ := I1.hok a _ h1
  rw [g1] at g2
  cases g2
  refine ⟨"tuple", id, pa, slot, hty, ⟨ob, g1, g3⟩, fun a e => ?_, ?_⟩
  · cases e
    exact ⟨ob, g1, h2⟩
  · have hA := ha.run cpos pins s1 σ H1 _ I1 q1
    rw [hs] at hA ⊢
    refine Calls.callWith_builtin (by show (false || (backTo cpos (starEach es X.env)).any (·.1)) = false; rw [hplain] <;> rfl) (Calls.evalArgs_plain ?_)
    exact thn hA fun us s2 ⟨vs, H2, I2, r3, q2⟩ => hm pins s2 σ H2 _ vs _ us Q I2 r2 r3 q2
def gIxE : List Vl → Vl → Vl → (Vl → List Vl → Prop) → Prop := fun st d y Q => ∃ ds e j, d = .fr (xt ds) ∧ pyO st y = some e ∧ IxOk ds e j ∧ Q (.fr (.int (j : Nat))) st
def cIxE (to te : DT) : DT := fun st Q => to st fun d st1 => (∃ ds, d = .fr (xt ds)) ∧ te st1 fun y st2 => gIxE st2 d y Q
theorem de_ixE (hu : Un0 X) (ho : DE X B lk o to) (he : DE X B lk e te) (hbase : attributeBase o "index" X.env (eval o X.env) = eval o X.env := by rfl)
    (hfew : ((backTo cpos (starEach [e] X.env)).all (fun x => !x.1) && (backToKw cpos (keywordEach [] X.env)).all (fun x => x.1.isSome)
      && decide ([e].length + ([] : List Keyword).length + (if ([] : List Keyword).isEmpty then 0 else 1) < 30)) = true := by rfl)
    (hline : (apos.endLine == cpos.line) = true := by rfl) (hs : starEach [e] X.env = (false, eval e X.env) :: starEach [] X.env := by rfl) (hplain : (backTo cpos (starEach [] X.env)).any (·.1) = false := by rfl) :
    DE X B lk (.Call (.Attribute o "index" apos) [e] [] cpos) (cIxE to te) :=
  PE.weak (pe_bmE PySem.F.plainAttrs_tuple PySem.F.slot_tuple_index PySem.F.type_tuple_index (mt_ixQT hu) ho (pa_cons he pa_nil hs) hbase hfew hline hs hplain) fun σ H Q ⟨lv, st, tm, tv, Q0, L, R, h, k⟩ => by
    refine ⟨lv, st, tm, tv, _, L, R, h, fun d st1 v H1 q1 R1 => ?_⟩
    obtain ⟨⟨ds, rfl⟩, q1⟩ := q1
    have ty : tEx v H1 := by
      obtain ⟨F, O, R2⟩ := R1
      have h : Rp X.K F H1 v (xt ds) := R2.top (fun i z => by cases z)
      cases h with
      | xtp h1 h2 r => exact ⟨_, _, _, rfl, h1, h2⟩
    refine ⟨ty, lv, st1, _ :: tm, v :: tv, _, L, R1, q1, fun y st2 u H2 q2 R2 => ?_⟩
    obtain ⟨ds', e, j, e2, e3, ok, q⟩ := q2
    obtain rfl : ds = ds' := by cases e2; rfl
    obtain ⟨F, O, R3⟩ := R2.pop
    have h : Rp X.K F H2 v (xt ds) := R3.top (fun i z => by cases z)
    cases h with
    | xtp h1 h2 r => exact ⟨_, u, e, ds, j, rfl, rfl, .tup (.inl (.inr ⟨_, h1⟩)) (RpA.dp _ _ r), R2.dp e3, ok, k _ _ _ _ q ⟨F, O, R3.pop.push (d := .fr (.int _)) (.int _)⟩⟩
/-! an exact tuple made of a list -/
theorem call_tuple_ofE : CallR X (.type "tuple") (fun xs H Q => ∃ p ys, xs = [.ref p] ∧ SqL X.K H p ys ∧ ∀ l o, H l = none → o.dict = none → Q (.ref l) (upd H l (.frz o (.tup ys)))) := by
  intro pins s σ H xs us Q I r h
  obtain ⟨p, ys, rfl, hq, q⟩ := h
  obtain ⟨u, rfl, rx⟩ := vals1 r
  cases rx
  obtain ⟨its, r', pl, hz⟩ := I.list hq
  have hlen := r'.length
  refine call_tuple_list pl.isList (fun h' kp => ?_) (by simp only [List.size_toArray] <;> omega)
  have I1 : Inv X pins σ H { s with heap := h' } := I.kept (t' := s.toks) kp
  have I2 : Inv X pins σ (upd H h'.objs.size (.frz { cls := .type "tuple", data := .seq its.toArray } (.tup ys))) { s with heap := h'.push { cls := .type "tuple", data := .seq its.toArray } } :=
    I1.laid (t' := s.toks) (fun b o e => Heap.get?_push_of_some _ e) (Nat.le_refl _) (show ObjOk X.prog X.w _ _ _ (.frz _ (.tup ys)) from ⟨Heap.get?_push_size _ rfl, hz, its, r', IsTup.new _ _⟩)
  exact ⟨.ref h'.objs.size, _, I2, rfl, q _ _ (I1.hok.fresh (Nat.le_refl _)) rfl⟩
theorem RelX.newXt {K : PySem.W.Frag} {lv : List (Nat × V)} {st tm : List Vl} {σ : L2.St} {tv : List V} {H : Hp} {F : Addr → Prop} {O : Addr → Option Ow} {p : Addr} {ob : Obj} {vs : List V} {ds : List PyData} (R : RelX K B lv st tm σ tv H F O) (hp : H p = none) (ho : ob.dict = none) (r : RpA K F H vs ds) : RelX K B lv st (.fr (xt ds) :: tm) σ (.ref p :: tv) (upd H p (.frz ob (.tup vs))) F O :=
  (R.new hp).push (Rp.xtp upd_same ho (r.keep (fun _ h => h) (fun b u e _ _ => upd_le hp b u e)))
def gTplE : List Vl → Vl → (Vl → Prop) → Prop := fun st d Q => match pyO st d with
  | some (.list xs) => Q (.fr (xt xs))
  | _ => False
theorem gTplE_ok {K : PySem.W.Frag} : F1Ok K B gTplE (fun xs H Q => ∃ p ys, xs = [.ref p] ∧ SqL K H p ys ∧ ∀ l o, H l = none → o.dict = none → Q (.ref l) (upd H l (.frz o (.tup ys)))) := fun lv st tm σ tv H d v Q0 Q F O R q k => by
  unfold gTplE at q
  split at q
  · rename_i xs e
    obtain ⟨a, vs, rfl, h, r⟩ := R.lst e
    exact ⟨_, _, rfl, h, fun l o hl ho => k _ _ _ q ⟨F, _, R.pop.newXt hl ho r⟩⟩
  · exact q.elim
theorem de_tupleE {es : List Expr} {t : DTA} {p pos : Pos} (hg : Gl X "tuple") (hm : X.mg "tuple" = none) (ha : DA X B lk (e :: es) t) (he : starEach (e :: es) X.env = (false, eval e X.env) :: starEach es X.env := by rfl) (hpl : (backTo pos (starEach es X.env)).any (·.1) = false := by rfl) :
    DE X B lk (.Call (.Name "tuple" p) (e :: es) [] pos) (cFn (g1 gTplE) t) := de_fnT call_tuple_ofE gTplE_ok.ok hg hm boot_tuple ha (he := he) (hpl := hpl)
/-! a name's thing, exact tuples told as plain ones -/
def cVarP (i : Nat) : DT := fun st Q => match st[i]? with
  | some (.fr x) => Q (.fr (strip x)) st
  | _ => False
theorem Rel.stripTop {K : PySem.W.Frag} {lv : List (Nat × V)} {st tm : List Vl} {σ : L2.St} {tv : List V} {H : Hp} {x : PyData} {v : V} (R : Rel K B lv st (.fr x :: tm) σ (v :: tv) H) : Rel K B lv st (.fr (strip x) :: tm) σ (v :: tv) H := by
  obtain ⟨F, O, R⟩ := R
  exact ⟨F, O, R.pop.push (d := .fr _) (Rp.strip _ _ (R.top (d := .fr x) (fun i z => by cases z)))⟩
theorem de_varP (i : Nat) {x : Str} {pos : Pos} (hN : X.N[i]? = some x := by rfl) (hv : Vis X.env.scope x := by first | exact Or.inl rfl | exact Or.inr (Or.inl rfl) | exact Or.inr (Or.inr rfl)) (hd : (x == ("__debug__" : Str)) = false := by decide)
    (hcd : (x == ("__classdict__" : Str)) = false := by decide) : DE X B lk (.Name x pos) (cVarP i) := PE.weak (pe_var hN hv hd hcd) fun σ H Q ⟨lv, st, tm, tv, Q0, L, R, h, k⟩ => by
  unfold cVarP at h
  cases q : st[i]? with
  | none => rw [q] at h; exact h.elim
  | some d =>
    rw [q] at h
    cases d with
    | fr x => obtain ⟨v, h1, R'⟩ := R.copy q; exact ⟨v, h1, k _ _ _ _ h R'.stripTop⟩
    | _ => exact h.elim
/-! list.extend by a tuple -/
end
section
variable {st : List Vl} {Q : Vl → List Vl → Prop} {to te : DT} {d v : Vl}
theorem s_ixe (h : to st fun d st1 => (∃ ds, d = .fr (xt ds)) ∧ te st1 fun y st2 => gIxE st2 d y Q) : cIxE to te st Q := h
theorem s_ixEp (ps : List (List Int)) (p : List Int) (j : Nat) (e1 : d = .fr (xt (ps.map pt))) (e2 : pyO st v = some (pt p)) (h1 : ps[j]? = some p) (h2 : ∀ (m : Nat) (z : List Int), m < j → ps[m]? = some z → z ≠ p) (h : Q (.fr (.int (j : Nat))) st) : gIxE st d v Q :=
  ⟨ps.map pt, pt p, j, e1, e2, ⟨lay_pts ps, lay_pt p, dep_pt60 p, nd_pts ps, ⟨pt p, by rw [List.getElem?_map, h1]; rfl, by rw [eqv_pt, decide_eq_true rfl]⟩, fun m z' hm hz => by
    rw [List.getElem?_map] at hz
    obtain ⟨z, hz2, rfl⟩ := Option.map_eq_some_iff.mp hz
    rw [eqv_pt, decide_eq_false (h2 m z hm hz2)]⟩, h⟩
theorem s_varP {x y : PyData} {i : Nat} (e : st[i]? = some (.fr x)) (e2 : strip x = y) (h : Q (.fr y) st) : cVarP i st Q := by subst e2; unfold cVarP; rw [e]; exact h
theorem s_tplE {QF : Vl → Prop} {xs : List PyData} (e : pyO st v = some (.list xs)) (h : QF (.fr (xt xs))) : gTplE st v QF := by unfold gTplE; rw [e]; exact h
theorem stripA_eq : ∀ {ds : List PyData}, (∀ d ∈ ds, strip d = d) → stripA ds = ds
  | [], _ => rfl
  | d :: ds, h => by rw [stripA, h d List.mem_cons_self, stripA_eq fun x hx => h x (List.mem_cons_of_mem _ hx)]
theorem stripA_map {α : Type} (f g : α → PyData) : ∀ {l : List α}, (∀ x ∈ l, strip (f x) = g x) → stripA (l.map f) = l.map g
  | [], _ => rfl
  | x :: l, h => by rw [List.map_cons, stripA, h x List.mem_cons_self, stripA_map f g fun y hy => h y (List.mem_cons_of_mem _ hy)]; rfl
theorem strip_int (i : Int) : strip (.int i) = .int i := by simp [strip]
theorem strip_ints (xs : List Int) : stripA (xs.map .int) = xs.map .int := stripA_eq fun d hd => by
  obtain ⟨x, _, rfl⟩ := List.mem_map.mp hd
  exact strip_int x
theorem strip_pt (xs : List Int) : strip (pt xs) = pt xs := by rw [pt, strip, strip_ints]
end
end DL

/-! Spreads: the judge's word and the law's own. -/
namespace DL
open PySem PySem.Spec PyProof.Rows L2
end DL

/-! A spread as it is made: columns, their points in any order. -/
namespace DL
open PySem PySem.Spec PyProof.Rows L2
abbrev Col := List (List Int) × List Int
theorem first_of2 {α : Type} [BEq α] [LawfulBEq α] {l : List α} {k : α} (h : k ∈ l) : l[l.idxOf k]? = some k ∧ ∀ (m : Nat) (z : α), m < l.idxOf k → l[m]? = some z → z ≠ k := by
  refine ⟨?_, fun m z hm hz e => ?_⟩
  · rw [List.getElem?_eq_getElem (List.idxOf_lt_length_iff.mpr h)]
    exact congrArg some (List.getElem_idxOf _)
  · subst e
    obtain ⟨h1, h2⟩ := List.getElem?_eq_some_iff.mp hz
    have h3 := List.not_of_lt_findIdx (p := (· == z)) hm
    simp only [h2, beq_self_eq_true] at h3
    cases h3
section
variable {m : Nat} {cs : List Col} {P : List (Nat × Nat)}
end
end DL

/-! The stair of a book of two measures. -/
namespace DL
open PySem PySem.Spec PyProof.Rows L2
def k0 (ps : List (List Int)) (i : Nat) : Int := (ps.getD i []).getD 0 0
def k1 (ps : List (List Int)) (i : Nat) : Int := (ps.getD i []).getD 1 0
def firsts (ps : List (List Int)) : List Nat := (List.range ps.length).filter fun i => decide (ps.idxOf (ps.getD i []) = i)
def stairS (ps : List (List Int)) : List Nat := (firsts ps).filter fun i => unbt ps (ps.getD i [])
def stairN (ps : List (List Int)) : List Nat := (stairS ps).mergeSort fun i j => decide (k0 ps i ≤ k0 ps j)
def kfS (ps : List (List Int)) : PyData → PyData
  | .int n => .int (k0 ps n.toNat)
  | d => d
theorem nums_ints (l : List Nat) : (nums l).map PyData.int = l.map fun (n : Nat) => PyData.int (n : Int) := by unfold nums; rw [List.map_map]; rfl
theorem kfS_map (ps : List (List Int)) (l : List Nat) : ((nums l).map PyData.int).map (kfS ps) = (l.map (k0 ps)).map .int := by
  rw [nums_ints, List.map_map, List.map_map]; rfl
theorem dataLe_kfS (ps : List (List Int)) (i j : Nat) : PySem.W.dataLe false (kfS ps) (.int (i : Int)) (.int (j : Int)) = decide (k0 ps i ≤ k0 ps j) :=
  congrFun (congrFun (PySem.W.dataLe_int (β := Nat) (k0 ps)) i) j
theorem stair_sort (ps : List (List Int)) (l : List Nat) : ((nums l).map PyData.int).mergeSort (PySem.W.dataLe false (kfS ps)) = (nums (l.mergeSort fun i j => decide (k0 ps i ≤ k0 ps j))).map .int := by
  rw [nums_ints, nums_ints]
  exact (List.map_mergeSort (r := fun i j => decide (k0 ps i ≤ k0 ps j)) (s := PySem.W.dataLe false (kfS ps)) (f := fun (n : Nat) => PyData.int (n : Int)) (l := l) fun a _ b _ => (dataLe_kfS ps a b).symm).symm
theorem mem_stair {ps : List (List Int)} {i : Nat} : i ∈ stairN ps ↔ i < ps.length ∧ ps.idxOf (ps.getD i []) = i ∧ unbt ps (ps.getD i []) = true := by
  unfold stairN
  rw [(List.mergeSort_perm _ _).mem_iff]
  unfold stairS firsts
  rw [List.mem_filter, List.mem_filter, List.mem_range, decide_eq_true_eq]
  exact ⟨fun ⟨⟨a, b⟩, c⟩ => ⟨a, b, c⟩, fun ⟨a, b, c⟩ => ⟨⟨a, b⟩, c⟩⟩
theorem stair_nodup (ps : List (List Int)) : (stairN ps).Nodup := by
  unfold stairN
  refine (List.mergeSort_perm _ _).symm.nodup ?_
  unfold stairS firsts
  exact List.Pairwise.filter _ (List.Pairwise.filter _ List.nodup_range)
theorem stair_len (ps : List (List Int)) : (stairN ps).length ≤ ps.length := by
  unfold stairN
  rw [List.length_mergeSort]
  refine Nat.le_trans (List.length_filter_le _ _) (Nat.le_trans (List.length_filter_le _ _) ?_)
  rw [List.length_range]; exact Nat.le_refl _
/-- one beats the other, in two measures -/
theorem beats_two {p q : List Int} (hp : p.length = 2) (hq : q.length = 2) : beats p q = (decide (p ≠ q) && (decide (q.getD 0 0 ≤ p.getD 0 0) && decide (q.getD 1 0 ≤ p.getD 1 0))) := by
  rw [getD2 hp, getD2 hq]
  unfold beats isover
  simp
theorem unbt_not {ps : List (List Int)} {q p : List Int} (h : unbt ps q = true) (hp : p ∈ ps) : beats p q = false := by
  unfold unbt at h
  rw [Bool.not_eq_true', List.any_eq_false] at h
  exact Bool.eq_false_iff.mpr (h p hp)
theorem stair_pair {ps : List (List Int)} (h2 : ∀ p ∈ ps, p.length = 2) : (stairN ps).Pairwise fun i j => k0 ps i < k0 ps j ∧ k1 ps j < k1 ps i := by
  have hs : (stairN ps).Pairwise fun i j => k0 ps i ≤ k0 ps j := by
    have := List.pairwise_mergeSort (le := fun i j => decide (k0 ps i ≤ k0 ps j)) (fun a b c => by simp only [decide_eq_true_eq]; omega) (fun a b => by simp only [Bool.or_eq_true, decide_eq_true_eq]; omega) (stairS ps)
    exact this.imp fun h => of_decide_eq_true h
  refine (List.Pairwise.and hs (stair_nodup ps)).imp_of_mem fun {i j} hi hj ⟨hle, hne⟩ => ?_
  obtain ⟨a1, a2, a3⟩ := mem_stair.mp hi
  obtain ⟨b1, b2, b3⟩ := mem_stair.mp hj
  have mi := getD_mem (ps := ps) a1
  have mj := getD_mem (ps := ps) b1
  have hpq : ps.getD i [] ≠ ps.getD j [] := fun z => hne (by rw [← a2, ← b2, z])
  have c1 := unbt_not a3 mj
  have c2 := unbt_not b3 mi
  rw [beats_two (h2 _ mj) (h2 _ mi), decide_eq_true (Ne.symm hpq), Bool.true_and, Bool.and_eq_false_iff, decide_eq_false_iff_not, decide_eq_false_iff_not] at c1
  rw [beats_two (h2 _ mi) (h2 _ mj), decide_eq_true hpq, Bool.true_and, Bool.and_eq_false_iff, decide_eq_false_iff_not, decide_eq_false_iff_not] at c2
  unfold k0 at hle
  show (ps.getD i []).getD 0 0 < (ps.getD j []).getD 0 0 ∧ (ps.getD j []).getD 1 0 < (ps.getD i []).getD 1 0
  omega
/-- who stands on it: the unbeaten points -/
theorem stair_in {ps : List (List Int)} {p : List Int} (hp : p ∈ ps) : (p ∈ (stairN ps).map fun i => ps.getD i []) ↔ unbt ps p = true := by
  rw [List.mem_map]
  constructor
  · rintro ⟨i, hi, rfl⟩
    exact (mem_stair.mp hi).2.2
  · intro h
    have hl : ps.idxOf p < ps.length := List.idxOf_lt_length_iff.mpr hp
    have e : ps.getD (ps.idxOf p) [] = p := by
      have hz : ps[List.idxOf p ps]? = some p := (first_of2 hp).1
      rw [List.getD_eq_getElem?_getD, hz]; rfl
    exact ⟨ps.idxOf p, mem_stair.mpr ⟨hl, by rw [e], by rw [e]; exact h⟩, e⟩
theorem strip_xtp (ps : List (List Int)) : strip (xt (ps.map pt)) = pts ps := by
  rw [xt, strip, stripA_map pt pt fun x _ => strip_pt x, pts]
theorem pair_next {α : Type} {R : α → α → Prop} : ∀ {l : List α}, l.Pairwise R → ∀ p ∈ l.zip (l.drop 1), R p.1 p.2
  | [], _, p, hp => by cases hp
  | [_], _, p, hp => by cases hp
  | a :: b :: l, h, p, hp => by
    rw [List.drop_succ_cons, List.drop_zero, List.zip_cons_cons] at hp
    rcases List.mem_cons.mp hp with rfl | hp
    · exact (List.pairwise_cons.mp h).1 b List.mem_cons_self
    · exact pair_next (List.pairwise_cons.mp h).2 p hp
end DL

/-! Gone along the stair: a least lot and its witnesses. -/
namespace DL
open PySem PySem.Spec PyProof.Rows L2
def lastF (ps : List (List Int)) (v : Int) (xs : List Nat) : Nat := (xs.filter fun m => stands (ps.getD m []) (ps.getD (xs.headD 0) []) v).getLastD 0
def goN (ps : List (List Int)) (v : Int) : List Nat → List Nat → List Nat → List Nat × List Nat
  | [], L, W => (L, W)
  | n :: r, L, W => if L = [] ∨ stands (ps.getD (L.getLastD 0) []) (ps.getD n []) v = false then goN ps v r (L ++ [lastF ps v (n :: r)]) (W ++ [n]) else goN ps v r L W
def srtI (xs : List Int) : List Int := xs.mergeSort fun a b => decide (a ≤ b)
def lotF (ps : List (List Int)) (v : Int) : List Int := srtI (nums (goN ps v (stairN ps) [] []).1)
def witF (ps : List (List Int)) (v : Int) : List Int := srtI (nums (goN ps v (stairN ps) [] []).2)
theorem stands2 (a b c d v : Int) : stands [a, b] [c, d] v = (decide (c ≤ a + v) && decide (d ≤ b + v)) := by
  unfold stands
  simp
theorem stands_2 {p q : List Int} (hp : p.length = 2) (hq : q.length = 2) (v : Int) : stands p q v = true ↔ q.getD 0 0 ≤ p.getD 0 0 + v ∧ q.getD 1 0 ≤ p.getD 1 0 + v := by
  rw [getD2 hp, getD2 hq, stands2, Bool.and_eq_true, decide_eq_true_eq, decide_eq_true_eq]
  exact Iff.rfl
/-- n's point stands for m's -/
def sN (ps : List (List Int)) (v : Int) (n m : Nat) : Prop := k0 ps m ≤ k0 ps n + v ∧ k1 ps m ≤ k1 ps n + v
theorem sN_iff {ps : List (List Int)} (h2 : ∀ p ∈ ps, p.length = 2) {n m : Nat} (hn : n < ps.length) (hm : m < ps.length) (v : Int) : stands (ps.getD n []) (ps.getD m []) v = true ↔ sN ps v n m :=
  stands_2 (h2 _ (getD_mem hn)) (h2 _ (getD_mem hm)) v
/-- a list's last one of those kept: there, kept, and all kept ones ahead -/
theorem lastD_filter {l : List Nat} {f : Nat → Bool} {R : Nat → Nat → Prop} (hp : l.Pairwise R) {n : Nat} (hn : n ∈ l) (hf : f n = true) :
    (l.filter f).getLastD 0 ∈ l ∧ f ((l.filter f).getLastD 0) = true ∧ ∀ q ∈ l, f q = true → q = (l.filter f).getLastD 0 ∨ R q ((l.filter f).getLastD 0) := by
  have hne : l.filter f ≠ [] := fun e => by
    have := List.mem_filter.mpr ⟨hn, hf⟩
    rw [e] at this; cases this
  have e : (l.filter f).getLastD 0 = (l.filter f).getLast hne := by
    rw [List.getLastD_eq_getLast?, List.getLast?_eq_some_getLast hne]; rfl
  rw [e]
  have hm := List.getLast_mem hne
  refine ⟨(List.mem_filter.mp hm).1, (List.mem_filter.mp hm).2, fun q hq hfq => ?_⟩
  have hq2 := List.mem_filter.mpr ⟨hq, hfq⟩
  have hpf := List.Pairwise.filter f hp
  rw [← List.dropLast_concat_getLast hne] at hq2 hpf
  rcases List.mem_append.mp hq2 with h | h
  · exact .inr ((List.pairwise_append.mp hpf).2.2 _ h _ (List.mem_singleton.mpr rfl))
  · exact .inl (List.mem_singleton.mp h)
structure GoI (ps : List (List Int)) (v : Int) (T pre L W : List Nat) : Prop where
  len : L.length = W.length
  lle : W.length ≤ pre.length
  cov : ∀ n ∈ pre, ∃ c ∈ L, sN ps v c n
  inL : ∀ c ∈ L, c ∈ T
  inW : ∀ w ∈ W, w ∈ pre
  upL : L.Pairwise fun a b => k0 ps a < k0 ps b
  upW : W.Pairwise fun a b => k0 ps a < k0 ps b ∧ k1 ps b < k1 ps a
  few : W.Pairwise fun a b => ∀ q ∈ T, ¬ (sN ps v q a ∧ sN ps v q b)
  top : L ≠ [] → sN ps v (L.getLastD 0) (W.getLastD 0) ∧ ∀ q ∈ T, sN ps v q (W.getLastD 0) → k0 ps q ≤ k0 ps (L.getLastD 0)
theorem lastD_mem {l : List Nat} (h : l ≠ []) : l.getLastD 0 ∈ l := by
  rw [List.getLastD_eq_getLast?, List.getLast?_eq_some_getLast h]; exact List.getLast_mem h
theorem lastD_app (l : List Nat) (x : Nat) : (l ++ [x]).getLastD 0 = x := by
  rw [List.getLastD_eq_getLast?, List.getLast?_concat]; rfl
theorem le_lastD {R : Nat → Nat → Prop} {l : List Nat} (hp : l.Pairwise R) {a : Nat} (h : a ∈ l) : a = l.getLastD 0 ∨ R a (l.getLastD 0) := by
  have hne : l ≠ [] := fun e => by rw [e] at h; cases h
  have e : l.getLastD 0 = l.getLast hne := by rw [List.getLastD_eq_getLast?, List.getLast?_eq_some_getLast hne]; rfl
  rw [e]
  rw [← List.dropLast_concat_getLast hne] at h hp
  rcases List.mem_append.mp h with h | h
  · exact .inr ((List.pairwise_append.mp hp).2.2 _ h _ (List.mem_singleton.mpr rfl))
  · exact .inl (List.mem_singleton.mp h)
theorem goN_good {ps : List (List Int)} (h2 : ∀ p ∈ ps, p.length = 2) {v : Int} (hv : 0 ≤ v) {T : List Nat} (hT : T.Pairwise fun i j => k0 ps i < k0 ps j ∧ k1 ps j < k1 ps i) (hlt : ∀ i ∈ T, i < ps.length) :
    ∀ (r pre L W : List Nat), T = pre ++ r → GoI ps v T pre L W → GoI ps v T T (goN ps v r L W).1 (goN ps v r L W).2
  | [], pre, L, W, e, h => by
    rw [List.append_nil] at e
    subst e
    exact h
  | n :: r, pre, L, W, e, h => by
    have e2 : T = (pre ++ [n]) ++ r := by rw [e, List.append_assoc]; rfl
    have hn : n ∈ T := by rw [e]; simp
    have hsT : (n :: r).Pairwise fun i j => k0 ps i < k0 ps j ∧ k1 ps j < k1 ps i := by rw [e] at hT; exact (List.pairwise_append.mp hT).2.1
    have hcr : ∀ a ∈ pre, ∀ b ∈ n :: r, k0 ps a < k0 ps b ∧ k1 ps b < k1 ps a := by rw [e] at hT; exact (List.pairwise_append.mp hT).2.2
    have hrn : ∀ b ∈ n :: r, k0 ps n ≤ k0 ps b := fun b hb => by
      rcases List.mem_cons.mp hb with rfl | hb
      · exact Int.le_refl _
      · exact Int.le_of_lt ((List.pairwise_cons.mp hsT).1 b hb).1
    rw [goN]
    by_cases hc : L = [] ∨ stands (ps.getD (L.getLastD 0) []) (ps.getD n []) v = false
    · rw [if_pos hc]
      obtain ⟨f1, f2, f3⟩ := lastD_filter (f := fun m => stands (ps.getD m []) (ps.getD n []) v) hsT (n := n) List.mem_cons_self (stands_self _ hv)
      have f1 : lastF ps v (n :: r) ∈ n :: r := f1
      have hcT : lastF ps v (n :: r) ∈ T := by rw [e]; exact List.mem_append_right _ f1
      have f2 : sN ps v (lastF ps v (n :: r)) n := (sN_iff h2 (hlt _ hcT) (hlt _ hn) v).mp f2
      have f3 : ∀ q ∈ n :: r, sN ps v q n → k0 ps q ≤ k0 ps (lastF ps v (n :: r)) := fun q hq hs => by
        have hqT : q ∈ T := by rw [e]; exact List.mem_append_right _ hq
        rcases f3 q hq ((sN_iff h2 (hlt _ hqT) (hlt _ hn) v).mpr hs) with z | z
        · rw [z]; exact Int.le_refl _
        · exact Int.le_of_lt z.1
      refine goN_good h2 hv hT hlt r (pre ++ [n]) _ _ e2 ⟨?_, ?_, ?_, ?_, ?_, ?_, ?_, ?_, ?_⟩
      · rw [List.length_append, List.length_append, h.len]; rfl
      · rw [List.length_append, List.length_append]; exact Nat.add_le_add_right h.lle 1
      · intro m hm
        rcases List.mem_append.mp hm with hm | hm
        · obtain ⟨c, c1, c2⟩ := h.cov m hm
          exact ⟨c, List.mem_append_left _ c1, c2⟩
        · rw [List.mem_singleton.mp hm]
          exact ⟨_, List.mem_append_right _ (List.mem_singleton.mpr rfl), f2⟩
      · intro c hc
        rcases List.mem_append.mp hc with hc | hc
        · exact h.inL c hc
        · rw [List.mem_singleton.mp hc]; exact hcT
      · intro w hw
        rcases List.mem_append.mp hw with hw | hw
        · exact List.mem_append_left _ (h.inW w hw)
        · rw [List.mem_singleton.mp hw]; simp
      · rw [List.pairwise_append]
        refine ⟨h.upL, List.pairwise_singleton _ _, fun a ha b hb => ?_⟩
        rw [List.mem_singleton.mp hb]
        have hne : L ≠ [] := fun z => by rw [z] at ha; cases ha
        have hneW : W ≠ [] := fun z => hne (List.eq_nil_of_length_eq_zero (by rw [h.len, z]; rfl))
        obtain ⟨t1, t2⟩ := h.top hne
        have hcl := hlt _ (h.inL _ (lastD_mem hne))
        have hns : ¬ sN ps v (L.getLastD 0) n := fun z => by
          have := (sN_iff h2 hcl (hlt _ hn) v).mpr z
          rcases hc with w | w
          · exact hne w
          · rw [this] at w; cases w
        have hw := hcr _ (h.inW _ (lastD_mem hneW)) n List.mem_cons_self
        have hlast : k0 ps (L.getLastD 0) < k0 ps (lastF ps v (n :: r)) := by
          unfold sN at t1 f2 hns
          omega
        rcases le_lastD h.upL ha with z | z
        · rw [z]; exact hlast
        · exact Int.lt_trans z hlast
      · rw [List.pairwise_append]
        refine ⟨h.upW, List.pairwise_singleton _ _, fun a ha b hb => ?_⟩
        rw [List.mem_singleton.mp hb]
        exact hcr a (h.inW a ha) n List.mem_cons_self
      · rw [List.pairwise_append]
        refine ⟨h.few, List.pairwise_singleton _ _, fun a ha b hb q hq ⟨s1, s2⟩ => ?_⟩
        rw [List.mem_singleton.mp hb] at s2
        have hneW : W ≠ [] := fun z => by rw [z] at ha; cases ha
        have hne : L ≠ [] := fun z => hneW (List.eq_nil_of_length_eq_zero (by rw [← h.len, z]; rfl))
        obtain ⟨t1, t2⟩ := h.top hne
        have hcl := hlt _ (h.inL _ (lastD_mem hne))
        have hns : ¬ sN ps v (L.getLastD 0) n := fun z => by
          have := (sN_iff h2 hcl (hlt _ hn) v).mpr z
          rcases hc with w | w
          · exact hne w
          · rw [this] at w; cases w
        have hw := hcr _ (h.inW _ (lastD_mem hneW)) n List.mem_cons_self
        have haw : k0 ps a ≤ k0 ps (W.getLastD 0) ∧ k1 ps (W.getLastD 0) ≤ k1 ps a := by
          rcases le_lastD h.upW ha with z | z
          · rw [← z]; exact ⟨Int.le_refl _, Int.le_refl _⟩
          · exact ⟨Int.le_of_lt z.1, Int.le_of_lt z.2⟩
        have hqw : sN ps v q (W.getLastD 0) := by
          unfold sN at s1 s2 ⊢
          omega
        have := t2 q hq hqw
        refine hns ?_
        unfold sN at t1 s2 ⊢
        omega
      · intro _
        rw [lastD_app, lastD_app]
        refine ⟨f2, fun q hq hs => ?_⟩
        rw [e] at hq
        rcases List.mem_append.mp hq with hq | hq
        · have := hcr q hq _ f1
          omega
        · exact f3 q hq hs
    · rw [if_neg hc]
      have hne : L ≠ [] := fun z => hc (.inl z)
      have hcl := h.inL _ (lastD_mem hne)
      refine goN_good h2 hv hT hlt r (pre ++ [n]) _ _ e2 ⟨h.len, Nat.le_trans h.lle (by rw [List.length_append]; omega), fun m hm => ?_, h.inL, fun w hw => List.mem_append_left _ (h.inW w hw), h.upL, h.upW, h.few, h.top⟩
      rcases List.mem_append.mp hm with hm | hm
      · exact h.cov m hm
      · rw [List.mem_singleton.mp hm]
        refine ⟨_, lastD_mem hne, (sN_iff h2 (hlt _ hcl) (hlt _ hn) v).mp ?_⟩
        cases z : stands (ps.getD (L.getLastD 0) []) (ps.getD n []) v with
        | true => rfl
        | false => exact absurd (.inr z) hc
theorem arg_max {α : Type} (s : α → Int) : ∀ {l : List α}, l ≠ [] → ∃ q ∈ l, ∀ r ∈ l, s r ≤ s q
  | [], h => absurd rfl h
  | [a], _ => ⟨a, List.mem_cons_self, fun r hr => by rw [List.mem_singleton.mp hr]; exact Int.le_refl _⟩
  | a :: b :: l, _ => by
    obtain ⟨q, hq, h⟩ := arg_max s (l := b :: l) (by simp)
    by_cases hc : s a ≤ s q
    · exact ⟨q, List.mem_cons_of_mem _ hq, fun r hr => by
        rcases List.mem_cons.mp hr with rfl | hr
        · exact hc
        · exact h r hr⟩
    · exact ⟨a, List.mem_cons_self, fun r hr => by
        rcases List.mem_cons.mp hr with rfl | hr
        · exact Int.le_refl _
        · have := h r hr; omega⟩
/-- over each point there is one on the stair -/
theorem stair_over {ps : List (List Int)} (h2 : ∀ p ∈ ps, p.length = 2) {p : List Int} (hp : p ∈ ps) : ∃ n ∈ stairN ps, p.getD 0 0 ≤ k0 ps n ∧ p.getD 1 0 ≤ k1 ps n := by
  let f : List Int → Bool := fun q => decide (p.getD 0 0 ≤ q.getD 0 0 ∧ p.getD 1 0 ≤ q.getD 1 0)
  have hpf : p ∈ ps.filter f := List.mem_filter.mpr ⟨hp, decide_eq_true ⟨Int.le_refl _, Int.le_refl _⟩⟩
  obtain ⟨q, hq, hmax⟩ := arg_max (fun q : List Int => q.getD 0 0 + q.getD 1 0) (l := ps.filter f) (fun e => by rw [e] at hpf; cases hpf)
  obtain ⟨hqm, hqf⟩ := List.mem_filter.mp hq
  have hqf : p.getD 0 0 ≤ q.getD 0 0 ∧ p.getD 1 0 ≤ q.getD 1 0 := of_decide_eq_true hqf
  have hu : unbt ps q = true := by
    unfold unbt
    rw [Bool.not_eq_true', List.any_eq_false]
    intro r hr hb
    rw [beats_two (h2 _ hr) (h2 _ hqm), Bool.and_eq_true, Bool.and_eq_true, decide_eq_true_eq, decide_eq_true_eq, decide_eq_true_eq] at hb
    obtain ⟨hne, h0, h1⟩ := hb
    have := hmax r (List.mem_filter.mpr ⟨hr, decide_eq_true ⟨by omega, by omega⟩⟩)
    apply hne
    rw [getD2 (h2 _ hr), getD2 (h2 _ hqm)]
    have this : r.getD 0 0 + r.getD 1 0 ≤ q.getD 0 0 + q.getD 1 0 := this
    rw [show r.getD 0 0 = q.getD 0 0 by omega, show r.getD 1 0 = q.getD 1 0 by omega]
  obtain ⟨n, hn, e⟩ := List.mem_map.mp ((stair_in hqm).mpr hu)
  refine ⟨n, hn, ?_⟩
  unfold k0 k1
  rw [e]
  exact hqf
theorem go_all {ps : List (List Int)} (h2 : ∀ p ∈ ps, p.length = 2) {v : Int} (hv : 0 ≤ v) : GoI ps v (stairN ps) (stairN ps) (goN ps v (stairN ps) [] []).1 (goN ps v (stairN ps) [] []).2 :=
  goN_good h2 hv (stair_pair h2) (fun i h => (mem_stair.mp h).1) (stairN ps) [] [] [] rfl ⟨rfl, Nat.le_refl _, (by intro n h; cases h), (by intro n h; cases h), (by intro n h; cases h), List.Pairwise.nil, List.Pairwise.nil, List.Pairwise.nil, fun h => absurd rfl h⟩
theorem srtI_perm (xs : List Int) : (srtI xs).Perm xs := List.mergeSort_perm _ _
theorem mem_srt {L : List Nat} {x : Int} : x ∈ srtI (nums L) ↔ ∃ i ∈ L, x = (i : Int) := by
  rw [(srtI_perm _).mem_iff]
  unfold nums
  rw [List.mem_map]
  exact ⟨fun ⟨a, h, e⟩ => ⟨a, h, e.symm⟩, fun ⟨a, h, e⟩ => ⟨a, h, e.symm⟩⟩
theorem srt_len (L : List Nat) : (srtI (nums L)).length = L.length := by
  rw [(srtI_perm _).length_eq]; exact List.length_map _
theorem rises_srt {L : List Nat} {n : Nat} (hn : L.Nodup) (hl : ∀ i ∈ L, i < n) : rises (srtI (nums L)) (n : Int) = true := by
  unfold rises
  rw [Bool.and_eq_true]
  constructor
  · rw [List.all_eq_true]
    intro x hx
    obtain ⟨i, hi, rfl⟩ := mem_srt.mp hx
    have := hl i hi
    simp only [withinD, Bool.and_eq_true, decide_eq_true_eq]
    omega
  · have hs : (srtI (nums L)).Pairwise fun a b => a ≤ b := by
      have := List.pairwise_mergeSort (le := fun a b : Int => decide (a ≤ b)) (fun a b c => by simp only [decide_eq_true_eq]; omega) (fun a b => by simp only [Bool.or_eq_true, decide_eq_true_eq]; omega) (nums L)
      exact this.imp fun h => of_decide_eq_true h
    have hd : (srtI (nums L)).Nodup := (srtI_perm _).symm.nodup (by
      unfold nums
      exact List.Pairwise.map (R := fun a b : Nat => a ≠ b) _ (fun a b h e => h (by omega)) hn)
    have hp : (srtI (nums L)).Pairwise fun a b => a < b := (List.Pairwise.and hs hd).imp fun ⟨h1, h2⟩ => by omega
    rw [List.all_eq_true]
    intro p h
    exact decide_eq_true (pair_next hp p h)
theorem up_nodup {ps : List (List Int)} {L : List Nat} (h : L.Pairwise fun a b => k0 ps a < k0 ps b) : L.Nodup := h.imp fun h e => by subst e; exact absurd h (Int.lt_irrefl _)
section
variable {ps : List (List Int)} (h2 : ∀ p ∈ ps, p.length = 2) {v : Int} (hv : 0 ≤ v)
include h2 hv
theorem few_len : (lotF ps v).length = (witF ps v).length := by unfold lotF witF; rw [srt_len, srt_len]; exact (go_all h2 hv).len
theorem few_rise : rises (lotF ps v) (ps.length : Nat) = true ∧ rises (witF ps v) (ps.length : Nat) = true := by
  have G := go_all h2 hv
  exact ⟨rises_srt (up_nodup G.upL) fun i h => (mem_stair.mp (G.inL i h)).1, rises_srt (up_nodup (G.upW.imp fun h => h.1)) fun i h => (mem_stair.mp (G.inW i h)).1⟩
theorem few_cov : covers ps v (lotF ps v) = true := by
  have G := go_all h2 hv
  unfold covers
  rw [List.all_eq_true]
  intro p hp
  obtain ⟨n, hn, h0, h1⟩ := stair_over h2 hp
  obtain ⟨c, hc, s0, s1⟩ := G.cov n hn
  rw [List.any_eq_true]
  refine ⟨(c : Int), mem_srt.mpr ⟨c, hc, rfl⟩, ?_⟩
  have hl := (mem_stair.mp (G.inL c hc)).1
  rw [Int.toNat_natCast, stands_2 (h2 _ (getD_mem hl)) (h2 _ hp)]
  exact ⟨Int.le_trans h0 s0, Int.le_trans h1 s1⟩
theorem few_parts : aparts ps v (witF ps v) = true := by
  have G := go_all h2 hv
  unfold aparts
  rw [List.all_eq_true]
  intro p hp
  obtain ⟨n, hn, h0, h1⟩ := stair_over h2 hp
  have e : (witF ps v).length = (witF ps v).length := rfl
  refine decide_eq_true ?_
  unfold witF
  rw [((srtI_perm _).filter _).length_eq]
  unfold nums
  rw [List.filter_map, List.length_map]
  obtain ⟨W, eW⟩ : ∃ W, (goN ps v (stairN ps) [] []).2 = W := ⟨_, rfl⟩
  rw [eW] at G ⊢
  have hW := List.Pairwise.filter ((fun x : Int => stands p (ps.getD x.toNat []) v) ∘ fun n : Nat => (n : Int)) G.few
  have hm : ∀ a ∈ W.filter ((fun x : Int => stands p (ps.getD x.toNat []) v) ∘ fun n : Nat => (n : Int)), sN ps v n a := fun a ha => by
    obtain ⟨ha, hs⟩ := List.mem_filter.mp ha
    have hl := (mem_stair.mp (G.inW a ha)).1
    have hs : stands p (ps.getD (a : Int).toNat []) v = true := hs
    rw [Int.toNat_natCast, stands_2 (h2 _ hp) (h2 _ (getD_mem hl))] at hs
    unfold sN
    have a0 : k0 ps a ≤ p.getD 0 0 + v := hs.1
    have a1 : k1 ps a ≤ p.getD 1 0 + v := hs.2
    omega
  match hF : W.filter ((fun x : Int => stands p (ps.getD x.toNat []) v) ∘ fun n : Nat => (n : Int)), hW, hm with
  | [], _, _ => exact Nat.zero_lt_succ 1
  | [a], _, _ => exact Nat.lt_succ_self 1
  | a :: b :: l, hW, hm => exact absurd ⟨hm a List.mem_cons_self, hm b (List.mem_cons_of_mem _ List.mem_cons_self)⟩ ((List.pairwise_cons.mp hW).1 b List.mem_cons_self n hn)
theorem few_size : (lotF ps v).length ≤ ps.length := by
  have G := go_all h2 hv
  unfold lotF
  rw [srt_len, G.len]
  exact Nat.le_trans G.lle (stair_len ps)
end
theorem lastAt {l : List Nat} (h : l ≠ []) : atI (l.map fun i : Nat => PyData.int (i : Int)) (-1) = some (.int ((l.getLastD 0 : Nat) : Int)) := by
  have e : l.getLastD 0 = l.getLast h := by rw [List.getLastD_eq_getLast?, List.getLast?_eq_some_getLast h]; rfl
  rw [e]
  have e2 : (l.map fun i : Nat => PyData.int (i : Int)) = (l.dropLast.map fun i : Nat => PyData.int (i : Int)) ++ [.int ((l.getLast h : Nat) : Int)] := by
    rw [← List.map_singleton (f := fun i : Nat => PyData.int (i : Int)), ← List.map_append, List.dropLast_concat_getLast h]
  rw [e2]
  exact DL.atI_last _ _
theorem strip_bk (m : Int) (ps : List (List Int)) : strip (.tuple [.int m, xt (ps.map pt)]) = .tuple [.int m, pts ps] := by
  rw [strip, stripA, stripA, strip_xtp, strip_int]; rfl
theorem lossOk_ge {v : Int} (h : lossOk v = true) : 0 ≤ v := (lossOk_iff.mp h).1
end DL

namespace U
open PySem PySem.Spec PyProof.Rows L2 DL
def top (i : Nat) : Stmt := PySem.Challenge.pw_unbeaten_k68_least_lots_with_witnesses.main.body.getD i (.Pass ⟨0, 0, 0, 0⟩)
abbrev s_is_whole : Stmt := top 19
abbrev s_is_within : Stmt := top 20
abbrev s_is_over : Stmt := top 21
abbrev s_does_beat : Stmt := top 22
abbrev s_is_unbeaten : Stmt := top 24
abbrev s_need_loss : Stmt := top 27
abbrev s_need_two : Stmt := top 28
abbrev s_does_stand : Stmt := top 29
abbrev s_stair_of : Stmt := top 30
abbrev s_last_for : Stmt := top 31
abbrev s_gone_along : Stmt := top 32
abbrev s_fewest : Stmt := top 33
abbrev s__law_mix : Stmt := top 35
abbrev s__law_deck : Stmt := top 36
abbrev s__law_next : Stmt := top 37
abbrev s__law_number : Stmt := top 38
abbrev s__law_points : Stmt := top 39
abbrev s__law_loss : Stmt := top 40
abbrev s__law_no_loss : Stmt := top 41
abbrev s__law_stands : Stmt := top 42
abbrev s__law_covers : Stmt := top 43
abbrev s__law_rising : Stmt := top 44
abbrev s__law_parts : Stmt := top 45
abbrev s__law_whole : Stmt := top 46
abbrev s__law_wholes : Stmt := top 47
abbrev s__law_word : Stmt := top 48
abbrev s__law_right : Stmt := top 49
abbrev s__law_refused : Stmt := top 50
abbrev s_law : Stmt := top 51
abbrev LX : List Str := ["NoLoss", "NoMeasures", "NoPoint", "NoKin", "TooMany", "NoNumber", "NoCorners", "NoDeed", "NoWindow", "NoWeights", "NoOrder", "NoRow", "NoLot", "NoTable", "NoLine", "NoText"]
/-! ### the head -/
def D_is_whole : He.DefD := ⟨("is_whole", none), "is_whole", "is_whole", defArgs s_is_whole, defBody s_is_whole, defScope s_is_whole, [], []⟩
def D_is_within : He.DefD := ⟨("is_within", none), "is_within", "is_within", defArgs s_is_within, defBody s_is_within, defScope s_is_within, [], []⟩
def D_is_over : He.DefD := ⟨("is_over", none), "is_over", "is_over", defArgs s_is_over, defBody s_is_over, defScope s_is_over, [], []⟩
def D_does_beat : He.DefD := ⟨("does_beat", none), "does_beat", "does_beat", defArgs s_does_beat, defBody s_does_beat, defScope s_does_beat, [], []⟩
def D_is_unbeaten : He.DefD := ⟨("is_unbeaten", none), "is_unbeaten", "is_unbeaten", defArgs s_is_unbeaten, defBody s_is_unbeaten, defScope s_is_unbeaten, [], []⟩
def D_need_loss : He.DefD := ⟨("need_loss", none), "need_loss", "need_loss", defArgs s_need_loss, defBody s_need_loss, defScope s_need_loss, [], []⟩
def D_need_two : He.DefD := ⟨("need_two", none), "need_two", "need_two", defArgs s_need_two, defBody s_need_two, defScope s_need_two, [], []⟩
def D_does_stand : He.DefD := ⟨("does_stand", none), "does_stand", "does_stand", defArgs s_does_stand, defBody s_does_stand, defScope s_does_stand, [], []⟩
def D_stair_of : He.DefD := ⟨("stair_of", none), "stair_of", "stair_of", defArgs s_stair_of, defBody s_stair_of, defScope s_stair_of, [], []⟩
def D_last_for : He.DefD := ⟨("last_for", none), "last_for", "last_for", defArgs s_last_for, defBody s_last_for, defScope s_last_for, [], []⟩
def D_gone_along : He.DefD := ⟨("gone_along", none), "gone_along", "gone_along", defArgs s_gone_along, defBody s_gone_along, defScope s_gone_along, [], []⟩
def D_fewest : He.DefD := ⟨("fewest", none), "fewest", "fewest", defArgs s_fewest, defBody s_fewest, defScope s_fewest, [], []⟩
def D__law_mix : He.DefD := ⟨("_law_mix", none), "_law_mix", "_law_mix", defArgs s__law_mix, defBody s__law_mix, defScope s__law_mix, [], []⟩
def D__law_deck : He.DefD := ⟨("_law_deck", none), "_law_deck", "_law_deck", defArgs s__law_deck, defBody s__law_deck, defScope s__law_deck, [], []⟩
def D__law_next : He.DefD := ⟨("_law_next", none), "_law_next", "_law_next", defArgs s__law_next, defBody s__law_next, defScope s__law_next, [], []⟩
def D__law_number : He.DefD := ⟨("_law_number", none), "_law_number", "_law_number", defArgs s__law_number, defBody s__law_number, defScope s__law_number, [], []⟩
def D__law_points : He.DefD := ⟨("_law_points", none), "_law_points", "_law_points", defArgs s__law_points, defBody s__law_points, defScope s__law_points, [], []⟩
def D__law_loss : He.DefD := ⟨("_law_loss", none), "_law_loss", "_law_loss", defArgs s__law_loss, defBody s__law_loss, defScope s__law_loss, [], []⟩
def D__law_no_loss : He.DefD := ⟨("_law_no_loss", none), "_law_no_loss", "_law_no_loss", defArgs s__law_no_loss, defBody s__law_no_loss, defScope s__law_no_loss, [], []⟩
def D__law_stands : He.DefD := ⟨("_law_stands", none), "_law_stands", "_law_stands", defArgs s__law_stands, defBody s__law_stands, defScope s__law_stands, [], []⟩
def D__law_covers : He.DefD := ⟨("_law_covers", none), "_law_covers", "_law_covers", defArgs s__law_covers, defBody s__law_covers, defScope s__law_covers, [], []⟩
def D__law_rising : He.DefD := ⟨("_law_rising", none), "_law_rising", "_law_rising", defArgs s__law_rising, defBody s__law_rising, defScope s__law_rising, [], []⟩
def D__law_parts : He.DefD := ⟨("_law_parts", none), "_law_parts", "_law_parts", defArgs s__law_parts, defBody s__law_parts, defScope s__law_parts, [], []⟩
def D__law_whole : He.DefD := ⟨("_law_whole", none), "_law_whole", "_law_whole", defArgs s__law_whole, defBody s__law_whole, defScope s__law_whole, [], []⟩
def D__law_wholes : He.DefD := ⟨("_law_wholes", none), "_law_wholes", "_law_wholes", defArgs s__law_wholes, defBody s__law_wholes, defScope s__law_wholes, [], []⟩
def D__law_word : He.DefD := ⟨("_law_word", none), "_law_word", "_law_word", defArgs s__law_word, defBody s__law_word, defScope s__law_word, [], []⟩
def D__law_right : He.DefD := ⟨("_law_right", none), "_law_right", "_law_right", defArgs s__law_right, defBody s__law_right, defScope s__law_right, [], []⟩
def D__law_refused : He.DefD := ⟨("_law_refused", none), "_law_refused", "_law_refused", defArgs s__law_refused, defBody s__law_refused, defScope s__law_refused, [], []⟩
def D_law : He.DefD := ⟨("law", none), "law", "law", defArgs s_law, defBody s_law, defScope s_law, [], []⟩
def fnL : List He.DefD := [D_is_whole, D_is_within, D_is_over, D_does_beat, D_is_unbeaten, D_need_loss, D_need_two, D_does_stand, D_stair_of, D_last_for, D_gone_along, D_fewest, D__law_mix, D__law_deck, D__law_next, D__law_number, D__law_points, D__law_loss, D__law_no_loss, D__law_stands, D__law_covers, D__law_rising, D__law_parts, D__law_whole, D__law_wholes, D__law_word, D__law_right, D__law_refused, D_law]
def faL : List He.Fa := [.glo "is_whole", .glo "is_within", .glo "is_over", .glo "does_beat", .glo "is_unbeaten", .glo "need_loss", .glo "need_two", .glo "does_stand", .glo "stair_of", .glo "last_for", .glo "gone_along", .glo "fewest", .glo "_law_mix", .glo "_law_deck", .glo "_law_next", .glo "_law_number", .glo "_law_points", .glo "_law_loss", .glo "_law_no_loss", .glo "_law_stands", .glo "_law_covers", .glo "_law_rising", .glo "_law_parts", .glo "_law_whole", .glo "_law_wholes", .glo "_law_word", .glo "_law_right", .glo "_law_refused", .glo "law", .free "isinstance", .free "int", .free "bool", .free "all", .free "zip", .free "any", .free "range", .free "len", .free "sorted", .free "enumerate", .free "tuple", .free "sum", .free "max", .free "abs", .free "min", .free "ValueError", .int "MOST_LOSS" 2000000000, .exc "NoLoss", .exc "NoMeasures", .glo "PointError"]
abbrev RR : PySem.W.OpenRow := PySem.W.OpenLaw.row PySem.Challenge.rw_unbeaten_k68_least_lots_with_witnesses
abbrev tfL : List He.Defn := [("stair_of", none)]
abbrev hkL : PySem.W.Hook := He.hookX 4 faL fnL [] tfL (fun K => exB LX K)
def obL (s : PySem.W.SharedT) : He.AlX := He.obsX 4 faL fnL [] tfL (fun K => exB LX K) (HandSHeadRun.getT s)
theorem obL_eq (s : PySem.W.SharedT) : obL s = hkL.obs s.abs := He.obsX_eq (HandSHeadRun.getT_eq s)
def looseL : List Str := (["is_whole", "is_within", "is_over", "does_beat", "is_unbeaten", "need_loss", "need_two", "does_stand", "stair_of", "last_for", "gone_along", "fewest", "_law_mix", "_law_deck", "_law_next", "_law_number"] : List Str) ++ (["_law_points", "_law_loss", "_law_no_loss", "_law_stands", "_law_covers", "_law_rising", "_law_parts", "_law_whole", "_law_wholes", "_law_word", "_law_right", "_law_refused", "MOST_LOSS", "PointError", "NoMeasures", "NoPoint"] : List Str) ++ (["NoKin", "TooMany", "NoNumber", "NoCorners", "NoDeed", "NoWindow", "NoWeights", "NoOrder", "NoRow", "NoLot", "NoTable", "NoLoss", "NoLine", "NoText"] : List Str)
theorem runL (w : World) : HandSHeadRun.RunEq RR (PySem.W.view RR.prog [51]) hkL obL 30000 looseL w := by
  intro os
  kernel_rfl
set_option hygiene false
local macro_rules | `(tactic| o_attr) => `(tactic| repeat' (first | ((with_reducible apply s_varF); (· rfl)) | ((with_reducible apply s_cons)) | ((with_reducible apply s_nil)) | ((with_reducible apply s_ret)) | ((with_reducible apply s_rt); (· rfl)) | ((with_reducible apply s_K)) | ((with_reducible apply s_c2)) | ((with_reducible apply s_call)) | ((with_reducible apply s_clk); (· rfl)) | ((with_reducible apply s_up); (· (first | (simp only [upds]; done) | (simp only [upds]; rfl)))) | ((with_reducible apply s_frz)) | ((with_reducible apply s_seq)) | ((with_reducible apply s_tst)) | ((with_reducible apply s_tstK)) | ((with_reducible apply s_fn)) | ((with_reducible apply s_frzF)) | ((with_reducible apply s_ifS)) | ((with_reducible apply s_next)) | ((with_reducible apply s_src); (· rfl)) | ((with_reducible apply s_asg)) | ((with_reducible apply s_ixT); (· rfl); (· (first | with_reducible exact atI_0 _ _ | with_reducible exact atI_1 _ _ _ | with_reducible exact atI_2 _ _ _ _ | with_reducible exact atI_3 _ _ _ _ _ | with_reducible exact atI_4 _ _ _ _ _ _ | (apply atI_ok; assumption) | assumption))) | ((with_reducible apply s_g1)) | ((with_reducible apply s_gT)) | ((with_reducible apply s_lst)) | ((with_reducible apply s_lc)) | ((with_reducible apply s_turn)) | ((with_reducible apply s_et)) | ((with_reducible apply s_frz2); (· rfl)) | ((with_reducible apply s_lstK); (· (first | (simp only [DL.frs, Option.map_some]; done) | (simp only [DL.frs, Option.map_some]; rfl) | rfl)); (· (simp only [List.length_cons, List.length_nil]; omega))) | ((with_reducible apply s_addI)) | ((with_reducible apply s_eq); (· rfl); (· rfl); (· (first | exact dep_int _ _ | exact dep_str _ _ | exact dep_bool _ _ | exact dep_none _ | exact dep_pt60 _ | exact dep_pl60 _ | exact dep_pts60 _ | exact dep_lpts60 _ | exact dep_mapI _ _ | exact dep_mapIT _ _ | exact dep_pto _ | rfl)); (· (first | exact dep_int _ _ | exact dep_str _ _ | exact dep_bool _ _ | exact dep_none _ | exact dep_pt60 _ | exact dep_pl60 _ | exact dep_pts60 _ | exact dep_lpts60 _ | exact dep_mapI _ _ | exact dep_mapIT _ _ | exact dep_pto _ | rfl))) | ((with_reducible apply s_seqI)) | ((with_reducible apply s_varO); (· rfl)) | ((with_reducible apply s_or)) | ((with_reducible apply s_not)) | ((with_reducible apply s_andV)) | ((with_reducible apply s_andVK)) | ((with_reducible apply s_gsn)) | ((with_reducible apply s_gsc)) | ((with_reducible apply s_for)) | ((with_reducible apply s_tu); (· rfl)) | ((with_reducible apply s_ne); (· rfl); (· rfl); (· (first | exact dep_int _ _ | exact dep_str _ _ | exact dep_bool _ _ | exact dep_none _ | exact dep_pt60 _ | exact dep_pl60 _ | exact dep_pts60 _ | exact dep_lpts60 _ | exact dep_mapI _ _ | exact dep_mapIT _ _ | exact dep_pto _ | rfl)); (· (first | exact dep_int _ _ | exact dep_str _ _ | exact dep_bool _ _ | exact dep_none _ | exact dep_pt60 _ | exact dep_pl60 _ | exact dep_pts60 _ | exact dep_lpts60 _ | exact dep_mapI _ _ | exact dep_mapIT _ _ | exact dep_pto _ | rfl))) | ((with_reducible apply s_frzO)) | ((with_reducible apply s_sqT)) | ((with_reducible apply s_yes)) | ((with_reducible apply s_ixL); (· rfl); (· (first | with_reducible exact atI_0 _ _ | with_reducible exact atI_1 _ _ _ | with_reducible exact atI_2 _ _ _ _ | with_reducible exact atI_3 _ _ _ _ _ | with_reducible exact atI_4 _ _ _ _ _ _ | (apply atI_ok; assumption) | assumption))) | ((with_reducible apply s_mul); (· (first | exact mulL (by omega) (by omega) | exact mulR (by omega) (by omega) | exact mulB (by omega) (by omega)))) | ((with_reducible apply s_pow); (· omega); (· omega); (· omega); (· (first | (simp only [Int.reduceToNat, Int.reducePow]; done) | (simp only [Int.reduceToNat, Int.reducePow]; rfl) | rfl))) | ((with_reducible apply s_tup)) | ((with_reducible apply s_drop)) | ((with_reducible apply s_isD); (· rfl)) | ((with_reducible apply s_tupK); (· (first | (simp only [DL.frs, Option.map_some]; done) | (simp only [DL.frs, Option.map_some]; rfl) | rfl)); (· (simp only [List.length_cons, List.length_nil]; omega))) | ((with_reducible apply s_varP); (· rfl); (· (first | exact strip_rows _ | exact strip_xt _ | exact strip_xtp _ | exact strip_bk _ _ | exact strip_pt _ | rfl))) | ((with_reducible apply s_c1)) | ((with_reducible apply s_neg)) | ((with_reducible apply s_and)) | ((with_reducible apply s_notV)) | ((with_reducible apply s_notVK)) | ((with_reducible apply s_pt)) | ((with_reducible apply s_ptK)) | ((with_reducible apply s_rng1)) | ((with_reducible apply s_zip)) | ((with_reducible apply s_lenL); (· rfl)) | ((with_reducible apply s_lenT); (· rfl)) | ((with_reducible apply s_zipK); (· rfl); (· rfl); (· rfl); (· rfl)) | ((with_reducible apply s_fdiv); (· omega); (· omega)) | ((with_reducible apply s_ch)) | ((with_reducible apply s_chK)) | ((with_reducible apply s_ciK)) | ((with_reducible apply s_g2)) | ((with_reducible apply s_noP)) | ((with_reducible apply s_sl)) | ((with_reducible apply s_mth)) | ((with_reducible apply s_sqL)) | ((with_reducible apply s_enum)) | ((with_reducible apply s_tpl1); (· rfl)) | ((with_reducible apply s_mthK); (· rfl)) | ((with_reducible apply s_enumK); (· rfl); (· rfl)) | ((with_reducible apply s_mth2); (· rfl); (· (first | (simp only [DL.frs, Option.map_some]; done) | (simp only [DL.frs, Option.map_some]; rfl) | rfl))) | ((with_reducible apply s_st); (· (first | (simp only [List.set_cons_succ, List.set_cons_zero]; done) | (simp only [List.set_cons_succ, List.set_cons_zero]; rfl) | rfl))) | ((with_reducible apply s_varX); (· rfl)) | ((with_reducible apply s_callX)) | ((with_reducible apply s_clx); (· rfl)) | ((with_reducible apply s_raise)) | ((with_reducible apply s_mod); (· omega)) | ((with_reducible apply s_abs)) | ((with_reducible apply s_sub)) | ((with_reducible apply s_sortL)) | ((with_reducible apply s_slk)) | ((with_reducible apply s_varS); (· rfl)) | ((with_reducible apply s_slL); (· rfl)) | ((with_reducible apply s_slT); (· rfl)) | ((with_reducible apply s_subK); (· rfl); (· (first | exact ixN_30 | exact ixN_31 | exact ixN_32 | exact ixN_51 | exact ixN_52 | exact ixN_53 | rfl)); (· (first | (simp only [List.set_cons_succ, List.set_cons_zero]; done) | (simp only [List.set_cons_succ, List.set_cons_zero]; rfl) | rfl)); (· (first | (simp only [List.set_cons_succ, List.set_cons_zero]; done) | (simp only [List.set_cons_succ, List.set_cons_zero]; rfl) | rfl))) | ((with_reducible apply s_sumPl)) | ((with_reducible apply s_addL); (· rfl); (· rfl); (· (refine small (k := 100000) ?_; (try simp only [List.length_append, List.length_cons, List.length_nil, List.length_map, List.length_take, List.length_drop, List.length_reverse, List.length_replicate, List.length_range]); omega))) | ((with_reducible apply s_addT); (· rfl); (· rfl); (· (refine small (k := 100000) ?_; (try simp only [List.length_append, List.length_cons, List.length_nil, List.length_map, List.length_take, List.length_drop, List.length_reverse, List.length_replicate, List.length_range]); omega))) | ((with_reducible apply s_tplE); (· rfl)) | ((with_reducible apply s_ixe)) | ((with_reducible apply s_try)) | ((with_reducible apply s_isX)) | ((with_reducible apply s_cntB)) | ((with_reducible apply s_idxB)) | ((with_reducible apply s_trk); (· (first | assumption | (simp only [List.mem_cons, true_or, or_true]; done) | decide +kernel)); (· (first | (simp only [List.length_cons, List.length_nil]; omega) | decide)); (· (first | (simp only [List.set_cons_succ, List.set_cons_zero]; done) | (simp only [List.set_cons_succ, List.set_cons_zero]; rfl) | rfl))) | ((with_reducible apply s_isXT); (· (first | assumption | decide +kernel)); (· (first | assumption | decide +kernel))) | ((with_reducible apply s_isXG); (· assumption)) | ((with_reducible apply s_rs); (· (first | (simp only [rst, List.set_cons_zero, List.set_cons_succ, Option.getD_some, List.getElem?_cons_zero, List.getElem?_cons_succ]; done) | (simp only [rst, List.set_cons_zero, List.set_cons_succ, Option.getD_some, List.getElem?_cons_zero, List.getElem?_cons_succ]; rfl)))) | ((with_reducible apply s_app); (· (refine Nat.lt_of_lt_of_le (m := 100000) ?_ (by rw [sizeLine_eq]; decide); (try simp only [List.length_append, List.length_cons, List.length_nil, List.length_map, List.length_take, List.length_drop, List.length_reverse, List.length_replicate, List.length_range]); omega))) | (with_reducible refine s_brT ?_) | (with_reducible refine s_brF ?_) | (with_reducible refine s_brD (fun h => ?_) (fun h => ?_)) | (with_reducible refine s_brN ?_) | (with_reducible refine s_brEq (eqv_nil _) ?_) | (with_reducible refine s_brE (fun h => ?_) (fun h => ?_)) | (with_reducible refine s_brEq (kd_isTuple_tuple _) ?_) | (with_reducible refine s_brEq (kd_isTuple_list _) ?_) | (with_reducible refine s_brEq (kd_isTuple_int _) ?_) | (with_reducible refine s_brEq (kd_isInt_int _) ?_) | (with_reducible refine s_brEq (kd_isInt_bool _) ?_) | (with_reducible refine s_brEq (kd_isInt_tuple _) ?_) | (with_reducible refine s_brEq (kd_isInt_list _) ?_) | (with_reducible refine s_brEq (kd_isInt_str _) ?_) | (with_reducible refine s_brEq (kd_isBool_int _) ?_) | (with_reducible refine s_brEq (kd_isBool_bool _) ?_) | (with_reducible refine s_brEq (kd_isBool_tuple _) ?_) | (with_reducible refine s_brEq (kd_isStr_str _) ?_) | (with_reducible refine s_brEq (kd_isStr_int _) ?_) | (with_reducible refine s_brEq (kd_isList_list _) ?_) | (with_reducible refine s_brEq (kd_isList_tuple _) ?_) | (with_reducible refine s_brEq (kd_non_int _) ?_) | (with_reducible refine s_brEq (kd_non_bool _) ?_) | (with_reducible refine s_brEq (kd_non_str _) ?_) | (with_reducible refine s_brEq (kd_non_tuple _) ?_) | (with_reducible refine s_brEq (kd_non_list _) ?_) | (with_reducible refine s_brEq (kd_isInt_none) ?_) | (with_reducible refine s_brEq (kd_isTuple_none) ?_) | (with_reducible refine s_brEq (kd_non_none) ?_) | (with_reducible refine s_brEq (eqv_int _ _) ?_) | (with_reducible refine s_brEq (eqv_bool _ _) ?_) | (with_reducible refine s_brEq (eqv_str _ _) ?_) | (with_reducible refine s_brEq (eqv_pt _ _) ?_) | (with_reducible refine s_brEq (eqv_pl _ _) ?_) | (with_reducible refine s_brEq (eqv_pto _ _) ?_) | (with_reducible refine s_brEq (beq_tt _) ?_)))
local macro_rules | `(tactic| o_norm) => `(tactic| repeat' (first | ((with_reducible apply s_varF); (· rfl)) | ((with_reducible apply s_cons)) | ((with_reducible apply s_nil)) | ((with_reducible apply s_ret)) | ((with_reducible apply s_rt); (· rfl)) | ((with_reducible apply s_K)) | ((with_reducible apply s_c2)) | ((with_reducible apply s_call)) | ((with_reducible apply s_clk); (· rfl)) | ((with_reducible apply s_up); (· (first | (simp only [upds]; done) | (simp only [upds]; rfl)))) | ((with_reducible apply s_nm); (· rfl); (· rfl); (· (first | (simp only [List.set_cons_succ, List.set_cons_zero]; done) | (simp only [List.set_cons_succ, List.set_cons_zero]; rfl) | rfl))) | ((with_reducible apply s_frz)) | ((with_reducible apply s_seq)) | ((with_reducible apply s_tst)) | ((with_reducible apply s_tstK)) | ((with_reducible apply s_fn)) | ((with_reducible apply s_frzF)) | ((with_reducible apply s_ifS)) | ((with_reducible apply s_next)) | ((with_reducible apply s_src); (· rfl)) | ((with_reducible apply s_asg)) | ((with_reducible apply s_ixT); (· rfl); (· (first | with_reducible exact atI_0 _ _ | with_reducible exact atI_1 _ _ _ | with_reducible exact atI_2 _ _ _ _ | with_reducible exact atI_3 _ _ _ _ _ | with_reducible exact atI_4 _ _ _ _ _ _ | (apply atI_ok; assumption) | assumption))) | ((with_reducible apply s_g1)) | ((with_reducible apply s_gT)) | ((with_reducible apply s_lst)) | ((with_reducible apply s_lc)) | ((with_reducible apply s_turn)) | ((with_reducible apply s_et)) | ((with_reducible apply s_frz2); (· rfl)) | ((with_reducible apply s_lstK); (· (first | (simp only [DL.frs, Option.map_some]; done) | (simp only [DL.frs, Option.map_some]; rfl) | rfl)); (· (simp only [List.length_cons, List.length_nil]; omega))) | ((with_reducible apply s_addI)) | ((with_reducible apply s_eq); (· rfl); (· rfl); (· (first | exact dep_int _ _ | exact dep_str _ _ | exact dep_bool _ _ | exact dep_none _ | exact dep_pt60 _ | exact dep_pl60 _ | exact dep_pts60 _ | exact dep_lpts60 _ | exact dep_mapI _ _ | exact dep_mapIT _ _ | exact dep_pto _ | rfl)); (· (first | exact dep_int _ _ | exact dep_str _ _ | exact dep_bool _ _ | exact dep_none _ | exact dep_pt60 _ | exact dep_pl60 _ | exact dep_pts60 _ | exact dep_lpts60 _ | exact dep_mapI _ _ | exact dep_mapIT _ _ | exact dep_pto _ | rfl))) | ((with_reducible apply s_seqI)) | ((with_reducible apply s_varO); (· rfl)) | ((with_reducible apply s_or)) | ((with_reducible apply s_not)) | ((with_reducible apply s_andV)) | ((with_reducible apply s_andVK)) | ((with_reducible apply s_gsn)) | ((with_reducible apply s_gsc)) | ((with_reducible apply s_for)) | ((with_reducible apply s_tu); (· rfl)) | ((with_reducible apply s_ne); (· rfl); (· rfl); (· (first | exact dep_int _ _ | exact dep_str _ _ | exact dep_bool _ _ | exact dep_none _ | exact dep_pt60 _ | exact dep_pl60 _ | exact dep_pts60 _ | exact dep_lpts60 _ | exact dep_mapI _ _ | exact dep_mapIT _ _ | exact dep_pto _ | rfl)); (· (first | exact dep_int _ _ | exact dep_str _ _ | exact dep_bool _ _ | exact dep_none _ | exact dep_pt60 _ | exact dep_pl60 _ | exact dep_pts60 _ | exact dep_lpts60 _ | exact dep_mapI _ _ | exact dep_mapIT _ _ | exact dep_pto _ | rfl))) | ((with_reducible apply s_frzO)) | ((with_reducible apply s_sqT)) | ((with_reducible apply s_yes)) | ((with_reducible apply s_ixL); (· rfl); (· (first | with_reducible exact atI_0 _ _ | with_reducible exact atI_1 _ _ _ | with_reducible exact atI_2 _ _ _ _ | with_reducible exact atI_3 _ _ _ _ _ | with_reducible exact atI_4 _ _ _ _ _ _ | (apply atI_ok; assumption) | assumption))) | ((with_reducible apply s_mul); (· (first | exact mulL (by omega) (by omega) | exact mulR (by omega) (by omega) | exact mulB (by omega) (by omega)))) | ((with_reducible apply s_pow); (· omega); (· omega); (· omega); (· (first | (simp only [Int.reduceToNat, Int.reducePow]; done) | (simp only [Int.reduceToNat, Int.reducePow]; rfl) | rfl))) | ((with_reducible apply s_tup)) | ((with_reducible apply s_drop)) | ((with_reducible apply s_isD); (· rfl)) | ((with_reducible apply s_tupK); (· (first | (simp only [DL.frs, Option.map_some]; done) | (simp only [DL.frs, Option.map_some]; rfl) | rfl)); (· (simp only [List.length_cons, List.length_nil]; omega))) | ((with_reducible apply s_varP); (· rfl); (· (first | exact strip_rows _ | exact strip_xt _ | exact strip_xtp _ | exact strip_bk _ _ | exact strip_pt _ | rfl))) | ((with_reducible apply s_c1)) | ((with_reducible apply s_neg)) | ((with_reducible apply s_and)) | ((with_reducible apply s_notV)) | ((with_reducible apply s_notVK)) | ((with_reducible apply s_pt)) | ((with_reducible apply s_ptK)) | ((with_reducible apply s_rng1)) | ((with_reducible apply s_zip)) | ((with_reducible apply s_lenL); (· rfl)) | ((with_reducible apply s_lenT); (· rfl)) | ((with_reducible apply s_zipK); (· rfl); (· rfl); (· rfl); (· rfl)) | ((with_reducible apply s_fdiv); (· omega); (· omega)) | ((with_reducible apply s_ch)) | ((with_reducible apply s_chK)) | ((with_reducible apply s_ciK)) | ((with_reducible apply s_g2)) | ((with_reducible apply s_noP)) | ((with_reducible apply s_sl)) | ((with_reducible apply s_mth)) | ((with_reducible apply s_sqL)) | ((with_reducible apply s_enum)) | ((with_reducible apply s_tpl1); (· rfl)) | ((with_reducible apply s_mthK); (· rfl)) | ((with_reducible apply s_enumK); (· rfl); (· rfl)) | ((with_reducible apply s_mth2); (· rfl); (· (first | (simp only [DL.frs, Option.map_some]; done) | (simp only [DL.frs, Option.map_some]; rfl) | rfl))) | ((with_reducible apply s_st); (· (first | (simp only [List.set_cons_succ, List.set_cons_zero]; done) | (simp only [List.set_cons_succ, List.set_cons_zero]; rfl) | rfl))) | ((with_reducible apply s_varX); (· rfl)) | ((with_reducible apply s_callX)) | ((with_reducible apply s_clx); (· rfl)) | ((with_reducible apply s_raise)) | ((with_reducible apply s_mod); (· omega)) | ((with_reducible apply s_abs)) | ((with_reducible apply s_sub)) | ((with_reducible apply s_sortL)) | ((with_reducible apply s_slk)) | ((with_reducible apply s_varS); (· rfl)) | ((with_reducible apply s_slL); (· rfl)) | ((with_reducible apply s_slT); (· rfl)) | ((with_reducible apply s_subK); (· rfl); (· (first | exact ixN_30 | exact ixN_31 | exact ixN_32 | exact ixN_51 | exact ixN_52 | exact ixN_53 | rfl)); (· (first | (simp only [List.set_cons_succ, List.set_cons_zero]; done) | (simp only [List.set_cons_succ, List.set_cons_zero]; rfl) | rfl)); (· (first | (simp only [List.set_cons_succ, List.set_cons_zero]; done) | (simp only [List.set_cons_succ, List.set_cons_zero]; rfl) | rfl))) | ((with_reducible apply s_sumPl)) | ((with_reducible apply s_addL); (· rfl); (· rfl); (· (refine small (k := 100000) ?_; (try simp only [List.length_append, List.length_cons, List.length_nil, List.length_map, List.length_take, List.length_drop, List.length_reverse, List.length_replicate, List.length_range]); omega))) | ((with_reducible apply s_addT); (· rfl); (· rfl); (· (refine small (k := 100000) ?_; (try simp only [List.length_append, List.length_cons, List.length_nil, List.length_map, List.length_take, List.length_drop, List.length_reverse, List.length_replicate, List.length_range]); omega))) | ((with_reducible apply s_tplE); (· rfl)) | ((with_reducible apply s_ixe)) | ((with_reducible apply s_try)) | ((with_reducible apply s_isX)) | ((with_reducible apply s_cntB)) | ((with_reducible apply s_idxB)) | ((with_reducible apply s_trk); (· (first | assumption | (simp only [List.mem_cons, true_or, or_true]; done) | decide +kernel)); (· (first | (simp only [List.length_cons, List.length_nil]; omega) | decide)); (· (first | (simp only [List.set_cons_succ, List.set_cons_zero]; done) | (simp only [List.set_cons_succ, List.set_cons_zero]; rfl) | rfl))) | ((with_reducible apply s_isXT); (· (first | assumption | decide +kernel)); (· (first | assumption | decide +kernel))) | ((with_reducible apply s_isXG); (· assumption)) | ((with_reducible apply s_rs); (· (first | (simp only [rst, List.set_cons_zero, List.set_cons_succ, Option.getD_some, List.getElem?_cons_zero, List.getElem?_cons_succ]; done) | (simp only [rst, List.set_cons_zero, List.set_cons_succ, Option.getD_some, List.getElem?_cons_zero, List.getElem?_cons_succ]; rfl)))) | ((with_reducible apply s_app); (· (refine Nat.lt_of_lt_of_le (m := 100000) ?_ (by rw [sizeLine_eq]; decide); (try simp only [List.length_append, List.length_cons, List.length_nil, List.length_map, List.length_take, List.length_drop, List.length_reverse, List.length_replicate, List.length_range]); omega))) | (with_reducible refine s_brT ?_) | (with_reducible refine s_brF ?_) | (with_reducible refine s_brD (fun h => ?_) (fun h => ?_)) | (with_reducible refine s_brN ?_) | (with_reducible refine s_brEq (eqv_nil _) ?_) | (with_reducible refine s_brE (fun h => ?_) (fun h => ?_)) | (with_reducible refine s_brEq (kd_isTuple_tuple _) ?_) | (with_reducible refine s_brEq (kd_isTuple_list _) ?_) | (with_reducible refine s_brEq (kd_isTuple_int _) ?_) | (with_reducible refine s_brEq (kd_isInt_int _) ?_) | (with_reducible refine s_brEq (kd_isInt_bool _) ?_) | (with_reducible refine s_brEq (kd_isInt_tuple _) ?_) | (with_reducible refine s_brEq (kd_isInt_list _) ?_) | (with_reducible refine s_brEq (kd_isInt_str _) ?_) | (with_reducible refine s_brEq (kd_isBool_int _) ?_) | (with_reducible refine s_brEq (kd_isBool_bool _) ?_) | (with_reducible refine s_brEq (kd_isBool_tuple _) ?_) | (with_reducible refine s_brEq (kd_isStr_str _) ?_) | (with_reducible refine s_brEq (kd_isStr_int _) ?_) | (with_reducible refine s_brEq (kd_isList_list _) ?_) | (with_reducible refine s_brEq (kd_isList_tuple _) ?_) | (with_reducible refine s_brEq (kd_non_int _) ?_) | (with_reducible refine s_brEq (kd_non_bool _) ?_) | (with_reducible refine s_brEq (kd_non_str _) ?_) | (with_reducible refine s_brEq (kd_non_tuple _) ?_) | (with_reducible refine s_brEq (kd_non_list _) ?_) | (with_reducible refine s_brEq (kd_isInt_none) ?_) | (with_reducible refine s_brEq (kd_isTuple_none) ?_) | (with_reducible refine s_brEq (kd_non_none) ?_) | (with_reducible refine s_brEq (eqv_int _ _) ?_) | (with_reducible refine s_brEq (eqv_bool _ _) ?_) | (with_reducible refine s_brEq (eqv_str _ _) ?_) | (with_reducible refine s_brEq (eqv_pt _ _) ?_) | (with_reducible refine s_brEq (eqv_pl _ _) ?_) | (with_reducible refine s_brEq (eqv_pto _ _) ?_) | (with_reducible refine s_brEq (beq_tt _) ?_)))
local macro_rules | `(tactic| o_args) => `(tactic| ((with_reducible apply s_nm); (· rfl); (· rfl); (· (first | (simp only [List.set_cons_succ, List.set_cons_zero]; done) | (simp only [List.set_cons_succ, List.set_cons_zero]; rfl) | rfl))))
set_option hygiene true
/-! is_whole -/
def S_is_whole : VSp := fun ds Q _ => ∃ x : PyData, ds = [.fr x] ∧ ∀ ds', Q (.fr (.bool (x.isInt && !x.isBool))) ds'
theorem len_is_whole : ∀ ds Q E, S_is_whole ds Q E → ds.length = 1 := by rintro _ _ _ ⟨_, rfl, _⟩; rfl
abbrev N_is_whole : List Str := ["thing"]
def t_is_whole : DTS := (cRet (cFrz (cAndV (cFn (gIsD "int" PyData.isInt) (cCons (cVar 0) (cCons (cK (.cst (.ty "int"))) cNil))) (cNotV (cFn (gIsD "bool" PyData.isBool) (cCons (cVar 0) (cCons (cK (.cst (.ty "bool"))) cNil)))))))
theorem r_is_whole : ∀ ds Q0 E0, S_is_whole ds Q0 E0 → t_is_whole (dEnds Q0) (ds ++ List.replicate (N_is_whole.length - 1) .gone) := by
  rintro ds Q0 E0 ⟨x, rfl, q⟩
  simp only [N_is_whole, List.length_cons, List.length_nil, List.cons_append, List.nil_append, Nat.reduceAdd, Nat.reduceSub, Nat.zero_add, List.replicate_succ, List.replicate_zero]; unfold t_is_whole
  o_attr
  refine s_br (fun h => ?_) (fun h => ?_)
  · o_attr
    rw [h, Bool.true_and] at q
    exact q _
  · o_attr
    rw [h, Bool.false_and] at q
    exact q _
/-! is_within -/
def S_is_within : VSp := fun ds Q _ => ∃ (x : PyData) (lo hi : Int), ds = [.fr x, .fr (.int lo), .fr (.int hi)] ∧ ∀ ds', Q (.fr (.bool (withinD x lo hi))) ds'
theorem len_is_within : ∀ ds Q E, S_is_within ds Q E → ds.length = 3 := by rintro _ _ _ ⟨_, _, _, rfl, _⟩; rfl
abbrev N_is_within : List Str := ["thing", "low", "high"]
def t_is_within : DTS := (cRet (cFrz (cAndV (cCall [] S_is_whole (cCons (cVar 0) cNil)) (cCh kleb kleb (cVar 1) (cVar 0) (cVar 2)))))
theorem r_is_within : ∀ ds Q0 E0, S_is_within ds Q0 E0 → t_is_within (dEnds Q0) (ds ++ List.replicate (N_is_within.length - 3) .gone) := by
  rintro ds Q0 E0 ⟨x, lo, hi, rfl, q⟩
  simp only [N_is_within, List.length_cons, List.length_nil, List.cons_append, List.nil_append, Nat.reduceAdd, Nat.reduceSub, Nat.zero_add, List.replicate_succ, List.replicate_zero]; unfold t_is_within
  o_attr
  refine ⟨x, rfl, fun ds' => ?_⟩
  o_attr
  cases x with
  | int i =>
    refine s_brEq (c := true) rfl ?_
    o_attr
    · rw [show kleb i hi = withinD (.int i) lo hi by simp [withinD, h]]
      exact q _
    · rw [show false = withinD (.int i) lo hi by simp [withinD, h]]
      exact q _
  | _ =>
    refine s_brEq (c := false) rfl ?_
    o_attr
    exact q _
/-! is_over -/
def S_is_over : VSp := fun ds Q _ => ∃ xs ys : List Int, xs.length ≤ 10 ∧ ys.length ≤ 10 ∧ ds = [.fr (pt xs), .fr (pt ys)] ∧ ∀ ds', Q (.fr (.bool (isover xs ys))) ds'
theorem len_is_over : ∀ ds Q E, S_is_over ds Q E → ds.length = 2 := by rintro _ _ _ ⟨_, _, _, _, rfl, _⟩; rfl
abbrev N_is_over : List Str := ["one", "other", "here", "there"]
def t_is_over : DTS := (cRet (cFn (g1 (gBools kAll)) (cCons (cLc [] [2, 3] (cZip2 (cCons (cVar 0) (cCons (cVar 1) cNil))) (gTu 2 (gsCons (gNm 2) (gsCons (gNm 3) gsNil))) cYes (c2 (kGe) (cVar 2) (cVar 3))) cNil)))
theorem r_is_over : ∀ ds Q0 E0, S_is_over ds Q0 E0 → t_is_over (dEnds Q0) (ds ++ List.replicate (N_is_over.length - 2) .gone) := by
  rintro ds Q0 E0 ⟨xs, ys, hx, hy, rfl, q⟩
  simp only [N_is_over, List.length_cons, List.length_nil, List.cons_append, List.nil_append, Nat.reduceAdd, Nat.reduceSub, Nat.zero_add, List.replicate_succ, List.replicate_zero]; unfold t_is_over
  o_attr
  refine s_lcMap (xs.zip ys) _ (fun p => some (.bool (decide (p.2 ≤ p.1)))) (zip_ints xs ys) rfl rfl ⟨rfl, rfl⟩ (by rw [List.length_zip]; exact small (k := 10) (by omega)) (fun p _ K hK => ?_) ?_
  · o_norm
    exact hK
  · o_attr
    refine s_bools ((xs.zip ys).map fun p => decide (p.2 ≤ p.1)) rfl (by rw [fmap_some, List.map_map]; rfl) ?_
    o_attr
    have e : kAll ((xs.zip ys).map fun p => decide (p.2 ≤ p.1)) = isover xs ys := by
      unfold kAll isover
      rw [List.all_map]; rfl
    rw [e]
    exact q _
/-! does_beat -/
def S_does_beat : VSp := fun ds Q _ => ∃ xs ys : List Int, xs.length ≤ 10 ∧ ys.length ≤ 10 ∧ ds = [.fr (pt xs), .fr (pt ys)] ∧ ∀ ds', Q (.fr (.bool (beats xs ys))) ds'
theorem len_does_beat : ∀ ds Q E, S_does_beat ds Q E → ds.length = 2 := by rintro _ _ _ ⟨_, _, _, _, rfl, _⟩; rfl
abbrev N_does_beat : List Str := ["one", "other"]
def t_does_beat : DTS := (cRet (cFrz (cAndV (c2 (gEq true) (cVar 0) (cVar 1)) (cCall [] S_is_over (cCons (cVar 0) (cCons (cVar 1) cNil))))))
theorem r_does_beat : ∀ ds Q0 E0, S_does_beat ds Q0 E0 → t_does_beat (dEnds Q0) (ds ++ List.replicate (N_does_beat.length - 2) .gone) := by
  rintro ds Q0 E0 ⟨xs, ys, hx, hy, rfl, q⟩
  simp only [N_does_beat, List.length_cons, List.length_nil, List.cons_append, List.nil_append, Nat.reduceAdd, Nat.reduceSub, Nat.zero_add, List.replicate_succ, List.replicate_zero]; unfold t_does_beat
  o_attr
  · have : beats xs ys = false := by simp [beats, h]
    rw [← this]; exact q _
  · refine ⟨xs, ys, hx, hy, rfl, fun ds' => ?_⟩
    o_attr
    have : beats xs ys = isover xs ys := by simp [beats, h]
    rw [← this]; exact q _
/-! is_unbeaten -/
def S_is_unbeaten : VSp := fun ds Q _ => ∃ (ps : List (List Int)) (n : Nat) (q : List Int), Pts ps ∧ ps[n]? = some q ∧ ds = [.fr (pts ps), .fr (.int n)] ∧ ∀ ds', Q (.fr (.bool (unbt ps q))) ds'
theorem len_is_unbeaten : ∀ ds Q E, S_is_unbeaten ds Q E → ds.length = 2 := by rintro _ _ _ ⟨_, _, _, _, _, rfl, _⟩; rfl
abbrev N_is_unbeaten : List Str := ["points", "number", "point"]
def t_is_unbeaten : DTS := (cRet (cNotV (cFn (g1 (gBools kAny)) (cCons (cLc [] [2] (cSeqI (cVar 0)) (gNm 2) cYes (cFrz (cCall [] S_does_beat (cCons (cVar 2) (cCons (c2 gIx (cVar 0) (cVar 1)) cNil))))) cNil))))
theorem r_is_unbeaten : ∀ ds Q0 E0, S_is_unbeaten ds Q0 E0 → t_is_unbeaten (dEnds Q0) (ds ++ List.replicate (N_is_unbeaten.length - 2) .gone) := by
  rintro ds Q0 E0 ⟨ps, n, p, hp, hn, rfl, q⟩
  simp only [N_is_unbeaten, List.length_cons, List.length_nil, List.cons_append, List.nil_append, Nat.reduceAdd, Nat.reduceSub, Nat.zero_add, List.replicate_succ, List.replicate_zero]; unfold t_is_unbeaten
  o_attr
  refine s_lcMap ps pt (fun x => some (.bool (beats x p))) rfl rfl rfl trivial (small (hp.1)) (fun x hx K hK => ?_) ?_
  · have hn' : (List.map pt ps)[n]? = some (pt p) := by rw [List.getElem?_map, hn]; rfl
    o_norm
    refine ⟨x, p, hp.2 x hx, hp.2 p (List.mem_of_getElem? hn), rfl, fun ds' => ?_⟩
    o_attr
    exact hK
  · o_attr
    refine s_bools (ps.map fun x => beats x p) rfl (by rw [fmap_some, List.map_map]; rfl) ?_
    o_attr
    have e : (!kAny (ps.map fun x => beats x p)) = unbt ps p := by
      unfold kAny unbt
      rw [List.any_map]; rfl
    rw [e]
    exact q _
/-! need_loss -/
def S_need_loss : VSp := fun ds Q E => ∃ v : Int, ds = [.fr (.int v)] ∧ (lossOk v = true → ∀ ds', Q (.fr .none) ds') ∧ (lossOk v = false → ∀ ds', E ⟨"NoLoss", none⟩ ds')
theorem len_need_loss : ∀ ds Q E, S_need_loss ds Q E → ds.length = 1 := by rintro _ _ _ ⟨_, rfl, _⟩; rfl
abbrev N_need_loss : List Str := ["loss"]
def t_need_loss (EX : Xn → List Vl → Prop) : DTS := (cIfS (cNot (cTst (cCall [] S_is_within (cCons (cVar 0) (cCons (cK (.fr (.int 0))) (cCons (cK (.fr (.int 2000000000))) cNil)))))) (cRaise "NoLoss" EX) cNext)
theorem r_need_loss : ∀ ds Q0 E0, S_need_loss ds Q0 E0 → t_need_loss E0 (dEnds Q0) (ds ++ List.replicate (N_need_loss.length - 1) .gone) := by
  rintro ds Q0 E0 ⟨v, rfl, q, e⟩
  simp only [N_need_loss, List.length_cons, List.length_nil, List.cons_append, List.nil_append, Nat.reduceAdd, Nat.reduceSub, Nat.zero_add, List.replicate_succ, List.replicate_zero]; unfold t_need_loss
  o_attr
  refine ⟨.int v, 0, 2000000000, rfl, fun ds' => ?_⟩
  o_attr
  refine s_br (fun h => ?_) (fun h => ?_)
  · o_attr
    exact q h _
  · o_attr
    exact e h _
/-! need_two -/
def S_need_two : VSp := fun ds Q E => ∃ (m : Int) (x : PyData), ds = [.fr (.tuple [.int m, x])] ∧ (m = 2 → ∀ ds', Q (.fr .none) ds') ∧ (m ≠ 2 → ∀ ds', E ⟨"NoMeasures", none⟩ ds')
theorem len_need_two : ∀ ds Q E, S_need_two ds Q E → ds.length = 1 := by rintro _ _ _ ⟨_, _, rfl, _⟩; rfl
abbrev N_need_two : List Str := ["book"]
def t_need_two (EX : Xn → List Vl → Prop) : DTS := (cIfS (cTst (c2 (gEq true) (c2 gIx (cVar 0) (cK (.fr (.int 0)))) (cK (.fr (.int 2))))) (cRaise "NoMeasures" EX) cNext)
theorem r_need_two : ∀ ds Q0 E0, S_need_two ds Q0 E0 → t_need_two E0 (dEnds Q0) (ds ++ List.replicate (N_need_two.length - 1) .gone) := by
  rintro ds Q0 E0 ⟨m, x, rfl, q, e⟩
  simp only [N_need_two, List.length_cons, List.length_nil, List.cons_append, List.nil_append, Nat.reduceAdd, Nat.reduceSub, Nat.zero_add, List.replicate_succ, List.replicate_zero]; unfold t_need_two
  o_attr
  · exact q h _
  · exact e h _
/-! does_stand -/
def S_does_stand : VSp := fun ds Q _ => ∃ (xs ys : List Int) (v : Int), xs.length ≤ 10 ∧ ys.length ≤ 10 ∧ ds = [.fr (pt xs), .fr (pt ys), .fr (.int v)] ∧ ∀ ds', Q (.fr (.bool (stands xs ys v))) ds'
theorem len_does_stand : ∀ ds Q E, S_does_stand ds Q E → ds.length = 3 := by rintro _ _ _ ⟨_, _, _, _, _, rfl, _⟩; rfl
abbrev N_does_stand : List Str := ["one", "other", "loss", "here", "there"]
def t_does_stand : DTS := (cRet (cFn (g1 (gBools kAll)) (cCons (cLc [] [3, 4] (cZip2 (cCons (cVar 0) (cCons (cVar 1) cNil))) (gTu 2 (gsCons (gNm 3) (gsCons (gNm 4) gsNil))) cYes (c2 (kGe) (c2 gAdd (cVar 3) (cVar 2)) (cVar 4))) cNil)))
theorem r_does_stand : ∀ ds Q0 E0, S_does_stand ds Q0 E0 → t_does_stand (dEnds Q0) (ds ++ List.replicate (N_does_stand.length - 3) .gone) := by
  rintro ds Q0 E0 ⟨xs, ys, v, hx, hy, rfl, q⟩
  simp only [N_does_stand, List.length_cons, List.length_nil, List.cons_append, List.nil_append, Nat.reduceAdd, Nat.reduceSub, Nat.zero_add, List.replicate_succ, List.replicate_zero]; unfold t_does_stand
  o_attr
  apply s_lcMap (xs.zip ys) _ (fun p => some (.bool (decide (p.2 ≤ p.1 + v)))) (zip_ints xs ys); (· (first | (simp only [wipeD, List.set_cons_zero, List.set_cons_succ]; done) | (simp only [wipeD, List.set_cons_zero, List.set_cons_succ]; rfl))); (· (first | (simp only [rst, List.set_cons_zero, List.set_cons_succ, Option.getD_some, List.getElem?_cons_zero, List.getElem?_cons_succ]; done) | (simp only [rst, List.set_cons_zero, List.set_cons_succ, Option.getD_some, List.getElem?_cons_zero, List.getElem?_cons_succ]; rfl)))
  · exact ⟨rfl, rfl⟩
  · rw [List.length_zip]; exact small (k := 10) (by omega)
  · intro p _ K hK
    o_norm
    exact hK
  · rw [fmap_some]
    o_attr
    refine s_bools ((xs.zip ys).map fun p => decide (p.2 ≤ p.1 + v)) rfl (by rw [List.map_map]; rfl) ?_
    rw [show kAll ((xs.zip ys).map fun p => decide (p.2 ≤ p.1 + v)) = stands xs ys v from all_of _ _]
    o_attr
    exact q _
/-! stair_of -/
--I X42
def S_stair_of : VSp := fun ds Q _ => ∃ (ps : List (List Int)), Pts ps ∧ (∀ p ∈ ps, p.length = 2) ∧ ds = [.fr (xt (ps.map pt))] ∧ ∀ ds', Q (.fr (.list ((nums (stairN ps)).map .int))) ds'
theorem len_stair_of : ∀ ds Q E, S_stair_of ds Q E → ds.length = 1 := by rintro _ _ _ ⟨_, _, _, rfl, _⟩; rfl
abbrev N_stair_of : List Str := ["points", "some", "number"]
def t_stair_of : DTS := (cSeq (cAsg (cFrz (cLc [] [2] (cRng1 (cCons (cFn (g1 gLen) (cCons (cVarP 0) cNil)) cNil)) (gNm 2) (cTst (c2 (gEq false) (cIxE (cVar 0) (c2 gIx (cVarP 0) (cVar 2))) (cVar 2))) (cVar 2))) (gNm 1)) (cSeq (cAsg (cFrz (cLc [] [2] (cSeqI (cVar 1)) (gNm 2) (cTst (cCall [] S_is_unbeaten (cCons (cVarP 0) (cCons (cVar 2) cNil)))) (cVar 2))) (gNm 1)) (cRet (cFrz (cSortL [0] (cVar 1) (c2 gIx (c2 gIx (cVarP 1) (cVar 0)) (cK (.fr (.int 0)))))))))
theorem r_stair_of : ∀ ds Q0 E0, S_stair_of ds Q0 E0 → t_stair_of (dEnds Q0) (ds ++ List.replicate (N_stair_of.length - 1) .gone) := by
  rintro ds Q0 E0 ⟨ps, hp, h2, rfl, q⟩
  have hpl : (List.map pt ps).length = ps.length := List.length_map _
  have hp1 := hp.1
  simp only [N_stair_of, List.length_cons, List.length_nil, List.cons_append, List.nil_append, Nat.reduceAdd, Nat.reduceSub, Nat.zero_add, List.replicate_succ, List.replicate_zero]; unfold t_stair_of
  o_attr
  rw [hpl]
  refine s_rng1K (by omega) (by omega) ?_
  o_attr
  apply s_lcMap (List.range ps.length) (fun (i : Nat) => .int (i : Int)) (fun i => if decide (ps.idxOf (ps.getD i []) = i) = true then some (PyData.int (i : Nat)) else none) (rngN ps.length); (· (first | (simp only [wipeD, List.set_cons_zero, List.set_cons_succ]; done) | (simp only [wipeD, List.set_cons_zero, List.set_cons_succ]; rfl))); (· (first | (simp only [rst, List.set_cons_zero, List.set_cons_succ, Option.getD_some, List.getElem?_cons_zero, List.getElem?_cons_succ]; done) | (simp only [rst, List.set_cons_zero, List.set_cons_succ, Option.getD_some, List.getElem?_cons_zero, List.getElem?_cons_succ]; rfl)))
  · trivial
  · rw [List.length_range]; exact small (k := 1000) hp.1
  · intro i hi K hK
    have hi := List.mem_range.mp hi
    o_norm
    refine ⟨⟨_, rfl⟩, ?_⟩
    o_attr
    refine s_ixT rfl (ptsAt hi) ?_
    obtain ⟨f1, f2⟩ := first_of2 (getD_mem (ps := ps) hi)
    refine s_ixEp ps (ps.getD i []) _ rfl rfl f1 f2 ?_
    o_attr
    · rw [if_pos (decide_eq_true (by omega))] at hK
      exact hK
    · rw [if_neg (by rw [decide_eq_true_eq]; omega)] at hK
      exact hK
  rw [fmap_if]
  rw [show ((List.range ps.length).filter fun i => decide (ps.idxOf (ps.getD i []) = i)) = firsts ps from rfl]
  have hfi : ∀ {i}, i ∈ firsts ps → i < ps.length := fun {i} h => List.mem_range.mp (List.mem_filter.mp h).1
  have hfl : (firsts ps).length ≤ 1000 := by
    refine Nat.le_trans (List.length_filter_le _ _) ?_
    rw [List.length_range]; exact hp1
  o_norm
  apply s_lcMap (firsts ps) (fun (i : Nat) => .int (i : Int)) (fun i => if unbt ps (ps.getD i []) = true then some (PyData.int (i : Nat)) else none) rfl; (· (first | (simp only [wipeD, List.set_cons_zero, List.set_cons_succ]; done) | (simp only [wipeD, List.set_cons_zero, List.set_cons_succ]; rfl))); (· (first | (simp only [rst, List.set_cons_zero, List.set_cons_succ, Option.getD_some, List.getElem?_cons_zero, List.getElem?_cons_succ]; done) | (simp only [rst, List.set_cons_zero, List.set_cons_succ, Option.getD_some, List.getElem?_cons_zero, List.getElem?_cons_succ]; rfl)))
  · trivial
  · exact small (k := 1000) hfl
  · intro i hi K hK
    have hi := hfi hi
    o_norm
    refine ⟨ps, i, ps.getD i [], hp, by rw [List.getElem?_eq_getElem hi, List.getD_eq_getElem?_getD, List.getElem?_eq_getElem hi]; rfl, rfl, fun ds' => ?_⟩
    o_attr
    refine s_br (fun h => ?_) (fun h => ?_)
    · rw [h] at hK
      o_attr
      exact hK
    · rw [h] at hK
      o_attr
      exact hK
  rw [fmap_if]
  rw [show (((firsts ps).filter fun i => unbt ps (ps.getD i [])).map fun (i : Nat) => PyData.int (i : Int)) = (nums (stairS ps)).map .int from (nums_ints _).symm]
  o_norm
  refine ⟨kfS ps, _, rfl, by rw [kfS_map]; exact alike_ints' _, by rw [kfS_map]; exact sortable_ints _, by rw [kfS_map]; exact dep_ints _ _, fun x hx Q1 hQ1 => ?_, ?_⟩
  · rw [nums_ints] at hx
    obtain ⟨i, hi, rfl⟩ := List.mem_map.mp hx
    have hi := hfi (List.mem_filter.mp hi).1
    have hg := getD2 (h2 _ (getD_mem (ps := ps) hi))
    rw [show [0].map (frzS [.fr (xt (ps.map pt)), .fr (.list ((nums (stairS ps)).map .int)), .gone]) = [.fr (xt (ps.map pt))] from rfl]
    o_attr
    refine s_ixT rfl (ptsAt hi) ?_
    rw [hg]
    refine s_K ?_
    refine s_ixT rfl (x := .int (k0 ps i)) (atI_0 _ _) ?_
    exact hQ1 _
  rw [stair_sort]
  o_attr
  exact q _
/-! last_for -/
--I X43
def S_last_for : VSp := fun ds Q _ => ∃ (ps : List (List Int)) (v : Int) (n : Nat) (r : List Nat), Pts ps ∧ r.length < 1000 ∧ (∀ i ∈ n :: r, i < ps.length) ∧ 0 ≤ v ∧ ds = [.fr (pts ps), .fr (.list ((nums (n :: r)).map .int)), .fr (.int v)] ∧ ∀ ds', Q (.fr (.int (lastF ps v (n :: r) : Nat))) ds'
theorem len_last_for : ∀ ds Q E, S_last_for ds Q E → ds.length = 3 := by rintro _ _ _ ⟨_, _, _, _, _, _, _, _, rfl, _⟩; rfl
abbrev N_last_for : List Str := ["points", "some", "loss", "number"]
def t_last_for : DTS := (cRet (c2 gIx (cLc [] [3] (cSeqI (cVar 1)) (gNm 3) (cTst (cCall [] S_does_stand (cCons (c2 gIx (cVar 0) (cVar 3)) (cCons (c2 gIx (cVar 0) (c2 gIx (cVar 1) (cK (.fr (.int 0))))) (cCons (cVar 2) cNil))))) (cVar 3)) (c1 gNeg (cK (.fr (.int 1))))))
theorem r_last_for : ∀ ds Q0 E0, S_last_for ds Q0 E0 → t_last_for (dEnds Q0) (ds ++ List.replicate (N_last_for.length - 3) .gone) := by
  rintro ds Q0 E0 ⟨ps, v, n, r, hp, hr, hi, hv, rfl, q⟩
  simp only [N_last_for, List.length_cons, List.length_nil, List.cons_append, List.nil_append, Nat.reduceAdd, Nat.reduceSub, Nat.zero_add, List.replicate_succ, List.replicate_zero]; unfold t_last_for
  o_attr
  rw [nums_ints]
  apply s_lcMap (n :: r) (fun (i : Nat) => .int (i : Int)) (fun m => if stands (ps.getD m []) (ps.getD n []) v = true then some (PyData.int (m : Nat)) else none) rfl; (· (first | (simp only [wipeD, List.set_cons_zero, List.set_cons_succ]; done) | (simp only [wipeD, List.set_cons_zero, List.set_cons_succ]; rfl))); (· (first | (simp only [rst, List.set_cons_zero, List.set_cons_succ, Option.getD_some, List.getElem?_cons_zero, List.getElem?_cons_succ]; done) | (simp only [rst, List.set_cons_zero, List.set_cons_succ, Option.getD_some, List.getElem?_cons_zero, List.getElem?_cons_succ]; rfl)))
  · trivial
  · rw [List.length_cons]; exact small (k := 1000) (by omega)
  · intro m hm K hK
    have hml := hi m hm
    have hnl := hi n List.mem_cons_self
    o_norm
    refine s_ixT rfl (ptsAt hml) ?_
    rw [List.map_cons]
    o_attr
    refine s_ixT rfl (ptsAt hnl) ?_
    o_attr
    refine ⟨_, _, v, hp.2 _ (getD_mem hml), hp.2 _ (getD_mem hnl), rfl, fun ds' => ?_⟩
    o_attr
    refine s_br (fun h => ?_) (fun h => ?_)
    · rw [h, if_pos rfl] at hK
      o_attr
      exact hK
    · rw [h, if_neg Bool.false_ne_true] at hK
      o_attr
      exact hK
  rw [fmap_if]
  have hne : (n :: r).filter (fun m => stands (ps.getD m []) (ps.getD n []) v) ≠ [] := fun e => by
    have := List.mem_filter (p := fun m => stands (ps.getD m []) (ps.getD n []) v).mpr ⟨List.mem_cons_self (a := n) (l := r), stands_self _ hv⟩
    rw [e] at this; cases this
  o_attr
  refine s_ixL rfl (lastAt hne) ?_
  o_attr
  exact q _
/-! gone_along -/
--I X43
def S_gone_along : VSp := fun ds Q _ => ∃ (ps : List (List Int)) (v : Int), Pts ps ∧ (∀ p ∈ ps, p.length = 2) ∧ 0 ≤ v ∧ ds = [.fr (pts ps), .fr (.list ((nums (stairN ps)).map .int)), .fr (.int v)] ∧ ∀ ds', Q (.fr (.tuple [pt (lotF ps v), pt (witF ps v)])) ds'
theorem len_gone_along : ∀ ds Q E, S_gone_along ds Q E → ds.length = 3 := by rintro _ _ _ ⟨_, _, _, _, _, rfl, _⟩; rfl
abbrev N_gone_along : List Str := ["points", "stair", "loss", "lot", "witnesses", "place", "number"]
def t_gone_along : DTS := (cSeq (cAsg (cLst cNil) (gNm 3)) (cSeq (cAsg (cLst cNil) (gNm 4)) (cSeq (cFor [] (cEnum (cCons (cVar 1) cNil)) (gTu 2 (gsCons (gNm 5) (gsCons (gNm 6) gsNil))) (cIfS (cOr (cTst (c2 (gEq false) (cVar 3) (cLst cNil))) (cNot (cTst (cCall [] S_does_stand (cCons (c2 gIx (cVar 0) (c2 gIx (cVar 3) (c1 gNeg (cK (.fr (.int 1)))))) (cCons (c2 gIx (cVar 0) (cVar 6)) (cCons (cVar 2) cNil))))))) (cSeq (cDrop (cMth' gApp (cVar 4) (cCons (cVar 6) cNil))) (cDrop (cMth' gApp (cVar 3) (cCons (cFrz (cCall [] S_last_for (cCons (cVar 0) (cCons (cFrz (cSl (cVar 1) (cPt (cVar 5)) cNoP)) (cCons (cVar 2) cNil))))) cNil)))) cNext)) (cRet (cTup (cCons (cFn (g1 gTpl) (cCons (cFn (g1 gSrt) (cCons (cVar 3) cNil)) cNil)) (cCons (cFn (g1 gTpl) (cCons (cFn (g1 gSrt) (cCons (cVar 4) cNil)) cNil)) cNil)))))))
theorem r_gone_along : ∀ ds Q0 E0, S_gone_along ds Q0 E0 → t_gone_along (dEnds Q0) (ds ++ List.replicate (N_gone_along.length - 3) .gone) := by
  rintro ds Q0 E0 ⟨ps, v, hp, h2, hv, rfl, q⟩
  have hsl := stair_len ps
  have hp1 := hp.1
  have hlt : ∀ i ∈ stairN ps, i < ps.length := fun i h => (mem_stair.mp h).1
  unfold lotF witF at q
  obtain ⟨T, eT⟩ : ∃ T, stairN ps = T := ⟨_, rfl⟩
  rw [eT] at hsl hlt q ⊢
  simp only [N_gone_along, List.length_cons, List.length_nil, List.cons_append, List.nil_append, Nat.reduceAdd, Nat.reduceSub, Nat.zero_add, List.replicate_succ, List.replicate_zero]; unfold t_gone_along
  o_norm
  refine s_forMap T.zipIdx (fun p => .tuple [.int (p.2 : Nat), .int (p.1 : Nat)]) (fun l' st => ∃ (pre : List (Nat × Nat)) (L W : List Nat) (d5 d6 : Vl), T.zipIdx = pre ++ l' ∧ (∀ c ∈ L, c < ps.length) ∧ L.length ≤ pre.length ∧ W.length = L.length ∧ goN ps v (l'.map Prod.fst) L W = goN ps v T [] [] ∧ st = [.fr (pts ps), .fr (.list ((nums T).map .int)), .fr (.int v), .ow ((nums L).map .int), .ow ((nums W).map .int), d5, d6]) (by rw [nums_ints]; exact enum_map (fun (i : Nat) => PyData.int (i : Int)) T 0) rfl ⟨[], [], [], _, _, rfl, (by intro c h; cases h), Nat.zero_le _, rfl, by rw [List.zipIdx_map_fst], rfl⟩ ?_ ?_
  · rintro ⟨n, k⟩ l' st ⟨pre, L, W, d5, d6, hpre, hL, hLl, hWl, hg, rfl⟩ K hK
    obtain ⟨hnk, rfl⟩ : T[pre.length]? = some n ∧ k = pre.length := by
      have h1 := congrArg (fun z => z[pre.length]?) hpre
      simp only [List.getElem?_zipIdx, List.getElem?_append_right (Nat.le_refl _), Nat.sub_self, List.getElem?_cons_zero, Nat.zero_add] at h1
      obtain ⟨a, h2, h3⟩ := Option.map_eq_some_iff.mp h1
      have h4 := Prod.mk.inj h3
      rw [h2, h4.1]
      exact ⟨rfl, h4.2.symm⟩
    have hnT : n ∈ T := List.mem_of_getElem? hnk
    have hnl := hlt n hnT
    have hpl : pre.length < T.length := (List.getElem?_eq_some_iff.mp hnk).1
    obtain ⟨r, er⟩ : ∃ r, l'.map Prod.fst = r := ⟨_, rfl⟩
    have hdrop : T.drop pre.length = n :: r := by
      have h1 := congrArg (List.map Prod.fst) hpre
      rw [List.zipIdx_map_fst, List.map_append, List.map_cons, er] at h1
      rw [h1]
      exact List.drop_left' (List.length_map _)
    have hr : r.length < 1000 := by
      have := congrArg List.length hdrop
      rw [List.length_drop, List.length_cons] at this
      omega
    have hri : ∀ i ∈ n :: r, i < ps.length := fun i h => hlt i (List.mem_of_mem_drop (by rw [hdrop]; exact h))
    rw [List.map_cons, er, goN] at hg
    have hll : (nums L).length = L.length := List.length_map _
    have hwl : (nums W).length = W.length := List.length_map _
    have hlf : lastF ps v (n :: r) < ps.length := by
      obtain ⟨f1, _, _⟩ := lastD_filter (R := fun _ _ => True) (f := fun m => stands (ps.getD m []) (ps.getD n []) v) (l := n :: r) (List.pairwise_of_forall fun _ _ => trivial) (n := n) List.mem_cons_self (stands_self _ hv)
      exact hri _ f1
    have hadd : (L = [] ∨ stands (ps.getD (L.getLastD 0) []) (ps.getD n []) v = false) → goN ps v r (L ++ [lastF ps v (n :: r)]) (W ++ [n]) = goN ps v T [] [] := fun h => by rw [if_pos h] at hg; exact hg
    have hno : ¬ (L = [] ∨ stands (ps.getD (L.getLastD 0) []) (ps.getD n []) v = false) → goN ps v r L W = goN ps v T [] [] := fun h => by rw [if_neg h] at hg; exact hg
    have hin : ∀ c ∈ L ++ [lastF ps v (n :: r)], c < ps.length := fun c hc => by
      rcases List.mem_append.mp hc with h | h
      · exact hL c h
      · rw [List.mem_singleton.mp h]; exact hlf
    have hpre2 : T.zipIdx = (pre ++ [(n, pre.length)]) ++ l' := by rw [hpre, List.append_assoc]; rfl
    have eL : (nums L).map PyData.int ++ [.int (lastF ps v (n :: r) : Nat)] = (nums (L ++ [lastF ps v (n :: r)])).map .int := by unfold nums; rw [List.map_append, List.map_append]; rfl
    have eW : (nums W).map PyData.int ++ [.int (n : Nat)] = (nums (W ++ [n])).map .int := by unfold nums; rw [List.map_append, List.map_append]; rfl
    have eS : cut ((nums T).map PyData.int) (some ((pre.length : Nat) : Int)) none = (nums (n :: r)).map .int := by rw [cut_drop, ← hdrop]; unfold nums; simp only [List.map_drop]
    have hfin : ∀ (d5 d6 : Vl), (L = [] ∨ stands (ps.getD (L.getLastD 0) []) (ps.getD n []) v = false) → K [.fr (pts ps), .fr (.list ((nums T).map .int)), .fr (.int v), .ow ((nums (L ++ [lastF ps v (n :: r)])).map .int), .ow ((nums (W ++ [n])).map .int), d5, d6] := fun d5 d6 h =>
      hK _ ⟨pre ++ [(n, pre.length)], _, _, d5, d6, hpre2, hin, by rw [List.length_append, List.length_append]; exact Nat.add_le_add_right hLl 1, by rw [List.length_append, List.length_append, hWl]; rfl, by rw [er]; exact hadd h, rfl⟩ rfl
    have hfin2 : ∀ (d5 d6 : Vl), ¬ (L = [] ∨ stands (ps.getD (L.getLastD 0) []) (ps.getD n []) v = false) → K [.fr (pts ps), .fr (.list ((nums T).map .int)), .fr (.int v), .ow ((nums L).map .int), .ow ((nums W).map .int), d5, d6] := fun d5 d6 h =>
      hK _ ⟨pre ++ [(n, pre.length)], _, _, d5, d6, hpre2, hL, by rw [List.length_append]; omega, hWl, by rw [er]; exact hno h, rfl⟩ rfl
    o_norm
    · have hc : L = [] := by
        have := List.map_eq_nil_iff.mp h
        exact List.map_eq_nil_iff.mp this
      rw [eS]
      refine ⟨ps, v, n, r, hp, hr, hri, hv, rfl, fun ds' => ?_⟩
      o_attr
      rw [eL, eW]
      exact hfin _ _ (.inl hc)
    · have hne : L ≠ [] := fun z => h (by rw [z]; rfl)
      have hcl := hL _ (lastD_mem hne)
      refine s_ixL (x := .int (L.getLastD 0 : Nat)) rfl (by rw [nums_ints]; exact lastAt hne) ?_
      refine s_ixT rfl (ptsAt hcl) ?_
      o_attr
      refine s_ixT rfl (ptsAt hnl) ?_
      o_attr
      refine ⟨_, _, v, hp.2 _ (getD_mem hcl), hp.2 _ (getD_mem hnl), rfl, fun ds' => ?_⟩
      o_attr
      refine s_br (fun hs => ?_) (fun hs => ?_)
      · o_attr
        refine hfin2 _ _ ?_
        rintro (z | z)
        · exact hne z
        · rw [hs] at z; cases z
      · o_attr
        rw [eS]
        refine ⟨ps, v, n, r, hp, hr, hri, hv, rfl, fun ds' => ?_⟩
        o_attr
        rw [eL, eW]
        exact hfin _ _ (.inr hs)
  · rintro st ⟨pre, L, W, d5, d6, hpre, hL, hLl, hWl, hg, rfl⟩
    rw [List.map_nil, goN] at hg
    rw [← hg] at q
    o_attr
    refine s_srtI (nums L) rfl ?_
    o_attr
    refine s_srtI (nums W) rfl ?_
    o_attr
    exact q _
/-! fewest -/
--I X43
def S_fewest : VSp := fun ds Q E => ∃ (m : Int) (ps : List (List Int)) (v : Int), Pts ps ∧ ds = [.fr (.tuple [.int m, xt (ps.map pt)]), .fr (.int v)] ∧ (m = 2 → lossOk v = true → (∀ p ∈ ps, p.length = 2) ∧ ∀ ds', Q (.fr (.tuple [pt (lotF ps v), pt (witF ps v)])) ds') ∧ (m ≠ 2 → ∀ ds', E ⟨"NoMeasures", none⟩ ds') ∧ (m = 2 → lossOk v = false → ∀ ds', E ⟨"NoLoss", none⟩ ds')
theorem len_fewest : ∀ ds Q E, S_fewest ds Q E → ds.length = 2 := by rintro _ _ _ ⟨_, _, _, _, rfl, _⟩; rfl
abbrev N_fewest : List Str := ["book", "loss"]
def t_fewest (EX : Xn → List Vl → Prop) : DTS := (cSeq (cDrop (cCallX [] S_need_two EX (cCons (cVarP 0) cNil))) (cSeq (cDrop (cCallX [] S_need_loss EX (cCons (cVar 1) cNil))) (cRet (cFrz (cCall [] S_gone_along (cCons (c2 gIx (cVarP 0) (cK (.fr (.int 1)))) (cCons (cFrz (cCall [] S_stair_of (cCons (c2 gIx (cVar 0) (cK (.fr (.int 1)))) cNil))) (cCons (cVar 1) cNil))))))))
theorem r_fewest : ∀ ds Q0 E0, S_fewest ds Q0 E0 → t_fewest E0 (dEnds Q0) (ds ++ List.replicate (N_fewest.length - 2) .gone) := by
  rintro ds Q0 E0 ⟨m, ps, v, hp, rfl, q, e1, e2⟩
  simp only [N_fewest, List.length_cons, List.length_nil, List.cons_append, List.nil_append, Nat.reduceAdd, Nat.reduceSub, Nat.zero_add, List.replicate_succ, List.replicate_zero]; unfold t_fewest
  o_attr
  refine ⟨m, _, rfl, fun h ds' => ?_, fun h ds' => ?_⟩
  rotate_left
  · o_attr
    exact e1 h _
  o_attr
  refine ⟨v, rfl, fun hv ds' => ?_, fun hv ds' => ?_⟩
  rotate_left
  · o_attr
    exact e2 h hv _
  obtain ⟨h2, q⟩ := q h hv
  o_attr
  refine ⟨ps, hp, h2, rfl, fun ds' => ?_⟩
  o_attr
  refine ⟨ps, v, hp, h2, lossOk_ge hv, rfl, fun ds' => ?_⟩
  o_attr
  exact q _
/-! _law_mix -/
def S__law_mix : VSp := fun ds Q _ => ∃ cell k : Int, 0 ≤ k ∧ k < 2 ^ 45 ∧ ds = [.fr (.int cell), .fr (.int k)] ∧ ∀ (x : Int) ds', Q (.fr (.int x)) ds'
theorem len__law_mix : ∀ ds Q E, S__law_mix ds Q E → ds.length = 2 := by rintro _ _ _ ⟨_, _, _, _, rfl, _⟩; rfl
abbrev N__law_mix : List Str := ["_law_cell", "_law_k", "_law_number"]
def t__law_mix : DTS := (cSeq (cAsg (c2 kMod (c2 gAdd (c2 gAdd (c2 gAdd (c2 kMod (cVar 0) (cK (.fr (.int 2147483629)))) (c2 kMul (c2 kMul (cK (.fr (.int 1000003))) (cVar 1)) (cVar 1))) (c2 kMul (cK (.fr (.int 7919))) (cVar 1))) (cK (.fr (.int 5)))) (cK (.fr (.int 2147483587)))) (gNm 2)) (cSeq (cAsg (c2 kMod (c2 kMul (cVar 2) (cVar 2)) (cK (.fr (.int 2147483563)))) (gNm 2)) (cRet (c2 gAdd (c2 kMul (c2 kFdiv (c2 kMod (c2 kMul (cVar 2) (c2 gAdd (cVar 2) (cK (.fr (.int 40961))))) (cK (.fr (.int 2147483549)))) (cK (.fr (.int 4)))) (cK (.fr (.int 1000003)))) (c2 kFdiv (cVar 2) (cK (.fr (.int 2048))))))))
theorem r__law_mix : ∀ ds Q0 E0, S__law_mix ds Q0 E0 → t__law_mix (dEnds Q0) (ds ++ List.replicate (N__law_mix.length - 2) .gone) := by
  rintro ds Q0 E0 ⟨cell, k, h0, h1, rfl, q⟩
  simp only [N__law_mix, List.length_cons, List.length_nil, List.cons_append, List.nil_append, Nat.reduceAdd, Nat.reduceSub, Nat.zero_add, List.replicate_succ, List.replicate_zero]; unfold t__law_mix
  o_attr
  refine s_nmI (fun x => 0 ≤ x ∧ x < 2147483587) rfl (modb (by decide)) fun x hx => ?_
  o_attr
  refine s_nmI (fun x => 0 ≤ x ∧ x < 2147483563) rfl (modb (by decide)) fun y hy => ?_
  o_attr
  exact q _ _
/-! _law_deck -/
def S__law_deck : VSp := fun ds Q _ => ∃ (cells : List Int) (k : Int), cells.length ≤ 63 ∧ 0 ≤ k ∧ k < 2 ^ 40 ∧ ds = [.fr (pl cells), .fr (.int k)] ∧ ∀ l ds', Deck 0 l → Q (.ow l) ds'
theorem len__law_deck : ∀ ds Q E, S__law_deck ds Q E → ds.length = 2 := by rintro _ _ _ ⟨_, _, _, _, _, rfl, _⟩; rfl
abbrev N__law_deck : List Str := ["_law_cells", "_law_salt"]
def t__law_deck : DTS := (cRet (cLst (cCons (cVar 0) (cCons (cK (.fr (.int 0))) (cCons (cK (.fr (.int 0))) (cCons (cK (.fr (.int 0))) (cCons (c2 gAdd (cFn (g1 gSumA) (cCons (cVar 0) cNil)) (c2 kMul (cK (.fr (.int 104729))) (cVar 1))) cNil)))))))
theorem r__law_deck : ∀ ds Q0 E0, S__law_deck ds Q0 E0 → t__law_deck (dEnds Q0) (ds ++ List.replicate (N__law_deck.length - 2) .gone) := by
  rintro ds Q0 E0 ⟨cells, k, hc, h0, h1, rfl, q⟩
  simp only [N__law_deck, List.length_cons, List.length_nil, List.cons_append, List.nil_append, Nat.reduceAdd, Nat.reduceSub, Nat.zero_add, List.replicate_succ, List.replicate_zero]; unfold t__law_deck
  o_attr
  exact q _ _ ⟨cells, 0, 0, 0, _, rfl, Nat.zero_le _, hc, by omega, by omega, by omega⟩
/-! _law_next -/
def S__law_next : VSp := fun ds Q _ => ∃ l n many, Deck n l ∧ n < 2 ^ 40 ∧ 0 < many ∧ many < 2 ^ 40 ∧ ds = [.ow l, .fr (.int many)] ∧ ∀ l' x ds', Deck (n + 1) l' → 0 ≤ x → x < many → ds'[0]? = some (.ow l') → Q (.fr (.int x)) ds'
theorem len__law_next : ∀ ds Q E, S__law_next ds Q E → ds.length = 2 := by rintro _ _ _ ⟨_, _, _, _, _, _, _, rfl, _⟩; rfl
abbrev N__law_next : List Str := ["_law_deck_here", "_law_many", "_law_cell", "_law_found"]
def t__law_next : DTS := (cSeq (cIfS (cAnd (cTst (c2 (gEq false) (c2 gIx (cVar 0) (cK (.fr (.int 2)))) (cK (.fr (.int 0))))) (cTst (c2 (kLt) (c2 gIx (cVar 0) (cK (.fr (.int 1)))) (cFn (g1 gLen) (cCons (c2 gIx (cVar 0) (cK (.fr (.int 0)))) cNil))))) (cSeq (cAsg (c2 gIx (c2 gIx (cVar 0) (cK (.fr (.int 0)))) (c2 gIx (cVar 0) (cK (.fr (.int 1))))) (gNm 2)) (cSeq (cAsg (c2 gAdd (c2 gIx (cVar 0) (cK (.fr (.int 1)))) (cK (.fr (.int 1)))) (gSub (cVar 0) (cK (.fr (.int 1))))) (cSeq (cIfS (cTst (c2 (kLt) (cVar 2) (c2 kPow (cK (.fr (.int 10))) (cK (.fr (.int 18)))))) (cRet (c2 kMod (cCall [] S__law_mix (cCons (cVar 2) (cCons (c2 gIx (cVar 0) (cK (.fr (.int 1)))) cNil))) (cVar 1))) cNext) (cAsg (cVar 2) (gSub (cVar 0) (cK (.fr (.int 2)))))))) cNext) (cSeq (cIfS (cTst (c2 (kGt) (c2 gIx (cVar 0) (cK (.fr (.int 2)))) (cK (.fr (.int 0))))) (cSeq (cAsg (c2 kMod (c2 gIx (cVar 0) (cK (.fr (.int 2)))) (cVar 1)) (gNm 3)) (cSeq (cAsg (c2 kFdiv (c2 gIx (cVar 0) (cK (.fr (.int 2)))) (cVar 1)) (gSub (cVar 0) (cK (.fr (.int 2))))) (cRet (cVar 3)))) cNext) (cSeq (cAsg (c2 gAdd (c2 gIx (cVar 0) (cK (.fr (.int 3)))) (cK (.fr (.int 1)))) (gSub (cVar 0) (cK (.fr (.int 3))))) (cRet (c2 kMod (cCall [] S__law_mix (cCons (c2 gIx (cVar 0) (cK (.fr (.int 4)))) (cCons (c2 gAdd (c2 gIx (cVar 0) (cK (.fr (.int 3)))) (cK (.fr (.int 1319)))) cNil))) (cVar 1))))))
theorem r__law_next : ∀ ds Q0 E0, S__law_next ds Q0 E0 → t__law_next (dEnds Q0) (ds ++ List.replicate (N__law_next.length - 2) .gone) := by
  rintro ds Q0 E0 ⟨l, n, many, ⟨cells, i, d, t, s, rfl, hi, hc, hd, ht, htn⟩, hn, hm, hm2, rfl, q⟩
  have hml : (List.map PyData.int cells).length = cells.length := List.length_map _
  simp only [N__law_next, List.length_cons, List.length_nil, List.cons_append, List.nil_append, Nat.reduceAdd, Nat.reduceSub, Nat.zero_add, List.replicate_succ, List.replicate_zero]; unfold t__law_next
  with_reducible refine s_seqCut (fun st => ∃ (i : Nat) (d : Int) (d2 : Vl), i ≤ cells.length ∧ 0 ≤ d ∧ st = [.ow [pl cells, .int (i : Nat), .int d, .int t, .int s], .fr (.int many), d2, .gone]) (fun K hK => ?_) ?_
  · o_attr
    · refine s_ixL rfl (intsAt (i := i) (by omega)) ?_
      o_norm
      · refine ⟨_, _, by omega, by omega, rfl, fun x ds' => ?_⟩
        o_attr
        exact q _ _ _ ⟨cells, i + 1, d, t, s, rfl, by omega, hc, hd, ht, by omega⟩ (modb hm).1 (modb hm).2 rfl
      · exact hK _ ⟨i + 1, _, _, by omega, by omega, rfl⟩
    · exact hK _ ⟨i, d, _, hi, hd, rfl⟩
    · exact hK _ ⟨i, d, _, hi, hd, rfl⟩
  · rintro st ⟨i, d, d2, hi, hd, rfl⟩
    o_norm
    · exact q _ _ _ ⟨cells, i, d / many, t, s, rfl, hi, hc, Int.ediv_nonneg hd (by omega), ht, by omega⟩ (modb hm).1 (modb hm).2 rfl
    · refine ⟨_, _, by omega, by omega, rfl, fun x ds' => ?_⟩
      o_attr
      exact q _ _ _ ⟨cells, i, d, t + 1, s, rfl, hi, hc, hd, by omega, by omega⟩ (modb hm).1 (modb hm).2 rfl
/-! _law_number -/
def S__law_number : VSp := fun ds Q _ => ∃ (l : List PyData) (n : Nat) (way : Int), Deck n l ∧ n < 2 ^ 39 ∧ 0 ≤ way ∧ ds = [.ow l, .fr (.int way)] ∧ ∀ l' (x : Int) ds', Deck (n + 1) l' → ds'[0]? = some (.ow l') → Q (.fr (.int x)) ds'
theorem len__law_number : ∀ ds Q E, S__law_number ds Q E → ds.length = 2 := by rintro _ _ _ ⟨_, _, _, _, _, _, rfl, _⟩; rfl
abbrev N__law_number : List Str := ["_law_deck_here", "_law_way"]
def t__law_number : DTS := (cSeq (cIfS (cTst (c2 (kLt) (cVar 1) (cK (.fr (.int 4))))) (cRet (c2 kSub (c2 kMul (cCall [0] S__law_next (cCons (cVar 0) (cCons (c2 gIx (cLst (cCons (cK (.fr (.int 3))) (cCons (cK (.fr (.int 10))) (cCons (cK (.fr (.int 12))) (cCons (cK (.fr (.int 41))) cNil))))) (cVar 1)) cNil))) (c2 gIx (cLst (cCons (cK (.fr (.int 1))) (cCons (cK (.fr (.int 1))) (cCons (cK (.fr (.int 10))) (cCons (cK (.fr (.int 1))) cNil))))) (cVar 1))) (c2 gIx (cLst (cCons (cK (.fr (.int 0))) (cCons (cK (.fr (.int 0))) (cCons (cK (.fr (.int 50))) (cCons (cK (.fr (.int 20))) cNil))))) (cVar 1)))) cNext) (cSeq (cIfS (cTst (c2 (gEq false) (cVar 1) (cK (.fr (.int 4))))) (cRet (c2 kSub (cCall [0] S__law_next (cCons (cVar 0) (cCons (c2 gAdd (c2 kMul (cK (.fr (.int 2))) (c2 kPow (cK (.fr (.int 10))) (cK (.fr (.int 9))))) (cK (.fr (.int 1)))) cNil))) (c2 kPow (cK (.fr (.int 10))) (cK (.fr (.int 9)))))) cNext) (cRet (c2 gIx (cLst (cCons (c2 kPow (cK (.fr (.int 10))) (cK (.fr (.int 9)))) (cCons (c2 kSub (cK (.fr (.int 0))) (c2 kPow (cK (.fr (.int 10))) (cK (.fr (.int 9))))) (cCons (cK (.fr (.int 0))) (cCons (c2 kSub (c2 kPow (cK (.fr (.int 10))) (cK (.fr (.int 9)))) (cK (.fr (.int 1)))) cNil))))) (cCall [0] S__law_next (cCons (cVar 0) (cCons (cK (.fr (.int 4))) cNil)))))))
theorem r__law_number : ∀ ds Q0 E0, S__law_number ds Q0 E0 → t__law_number (dEnds Q0) (ds ++ List.replicate (N__law_number.length - 2) .gone) := by
  rintro ds Q0 E0 ⟨l, n, way, hP, hn, h0, rfl, q⟩
  simp only [N__law_number, List.length_cons, List.length_nil, List.cons_append, List.nil_append, Nat.reduceAdd, Nat.reduceSub, Nat.zero_add, List.replicate_succ, List.replicate_zero]; unfold t__law_number
  o_attr
  · refine s_ixI (f := fun z => 0 < z ∧ z < 50) rfl (atI_in [3, 10, 12, 41] rfl h0 (by simp only [List.length_cons, List.length_nil]; omega) (by decide)) fun z hz => ?_
    o_attr
    refine ⟨_, _, _, hP, by omega, by omega, by omega, rfl, fun l x ds1 hP h0x h1x e1 => ?_⟩; ((with_reducible apply s_up); (· (first | (simp only [upds, List.set_cons_zero, List.set_cons_succ, Option.getD_some, e1]; done) | (simp only [upds, List.set_cons_zero, List.set_cons_succ, Option.getD_some, e1]; rfl)))); o_attr
    refine s_ixI (f := fun z => 0 < z ∧ z < 50) rfl (atI_in [1, 1, 10, 1] rfl h0 (by simp only [List.length_cons, List.length_nil]; omega) (by decide)) fun z2 hz2 => ?_
    o_attr
    refine s_ixI (f := fun z => True) rfl (atI_in [0, 0, 50, 20] rfl h0 (by simp only [List.length_cons, List.length_nil]; omega) (by decide)) fun z2 hz2 => ?_
    o_attr
    exact q _ _ _ hP rfl
  · refine ⟨_, _, _, hP, by omega, by omega, by omega, rfl, fun l x ds1 hP h0x h1x e1 => ?_⟩; ((with_reducible apply s_up); (· (first | (simp only [upds, List.set_cons_zero, List.set_cons_succ, Option.getD_some, e1]; done) | (simp only [upds, List.set_cons_zero, List.set_cons_succ, Option.getD_some, e1]; rfl)))); o_attr
    exact q _ _ _ hP rfl
  · refine ⟨_, _, _, hP, by omega, by omega, by omega, rfl, fun l x ds1 hP h0x h1x e1 => ?_⟩; ((with_reducible apply s_up); (· (first | (simp only [upds, List.set_cons_zero, List.set_cons_succ, Option.getD_some, e1]; done) | (simp only [upds, List.set_cons_zero, List.set_cons_succ, Option.getD_some, e1]; rfl)))); o_attr
    refine s_ixI (f := fun z => True) rfl (atI_in [1000000000, 0 - 1000000000, 0, 1000000000 - 1] rfl h0x h1x (fun _ _ => trivial)) fun z2 hz2 => ?_
    o_attr
    exact q _ _ _ hP rfl
/-! _law_points -/
--I X42
def S__law_points : VSp := fun ds Q _ => ∃ (l : List PyData) (n m most : Nat), Deck n l ∧ n < 2 ^ 38 ∧ 1 ≤ m ∧ m ≤ 4 ∧ 5 ≤ most ∧ most ≤ 24 ∧ ds = [.ow l, .fr (.int (m : Nat)), .fr (.int (most : Nat))] ∧ ∀ l' (ps : List (List Int)) ds', Deck (n + 1000) l' → ps.length ≤ most → (∀ p ∈ ps, p.length = m) → ds'[0]? = some (.ow l') → Q (.fr (xt (ps.map pt))) ds'
theorem len__law_points : ∀ ds Q E, S__law_points ds Q E → ds.length = 3 := by rintro _ _ _ ⟨_, _, _, _, _, _, _, _, _, _, rfl, _⟩; rfl
abbrev N__law_points : List Str := ["_law_deck_here", "_law_measures", "_law_most", "_law_way", "_law_size", "_law_many", "_law_found", "_law_low", "_law_k", "_law_alike", "_law_point", "_law_one", "_law_m"]
def t__law_points : DTS := (cSeq (cAsg (cFrz (cCall [0] S__law_next (cCons (cVar 0) (cCons (cK (.fr (.int 8))) cNil)))) (gNm 3)) (cSeq (cAsg (cFrz (cCall [0] S__law_next (cCons (cVar 0) (cCons (cK (.fr (.int 3))) cNil)))) (gNm 4)) (cSeq (cAsg (cVar 2) (gNm 5)) (cSeq (cIfS (cTst (c2 (kGt) (cVar 4) (cK (.fr (.int 0))))) (cAsg (cFrz (cCall [0] S__law_next (cCons (cVar 0) (cCons (c2 gAdd (c2 gIx (cLst (cCons (cVar 2) (cCons (cK (.fr (.int 5))) cNil))) (c2 kSub (cVar 4) (cK (.fr (.int 1))))) (cK (.fr (.int 1)))) cNil)))) (gNm 5)) cNext) (cSeq (cAsg (cLst cNil) (gNm 6)) (cSeq (cAsg (c2 gIx (cLst (cCons (cK (.fr (.int 0))) (cCons (c2 kSub (cK (.fr (.int 0))) (c2 kPow (cK (.fr (.int 10))) (cK (.fr (.int 9))))) cNil))) (c2 kFdiv (cVar 3) (cK (.fr (.int 7))))) (gNm 7)) (cSeq (cFor [] (cRng1 (cCons (cVar 5) cNil)) (gNm 8) (cSeq (cAsg (cFrz (cCall [0] S__law_next (cCons (cVar 0) (cCons (cK (.fr (.int 7))) cNil)))) (gNm 9)) (cSeq (cIfS (cAnd (cTst (c2 (kLt) (cVar 9) (cK (.fr (.int 2))))) (cTst (c2 (gEq true) (cVar 6) (cLst cNil)))) (cSeq (cAsg (c2 gIx (cVar 6) (cCall [0] S__law_next (cCons (cVar 0) (cCons (cFn (g1 gLen) (cCons (cVar 6) cNil)) cNil)))) (gNm 10)) (cIfS (cTst (c2 (gEq false) (cVar 9) (cK (.fr (.int 1))))) (cAsg (cFn (g1 gTpl) (cCons (cLc [] [11] (cSeqI (cVar 10)) (gNm 11) cYes (cFn (g2I fun i j => max i j) (cCons (c2 kSub (cK (.fr (.int 0))) (c2 kPow (cK (.fr (.int 10))) (cK (.fr (.int 9))))) (cCons (c2 kSub (cVar 11) (cCall [0] S__law_next (cCons (cVar 0) (cCons (cK (.fr (.int 3))) cNil)))) cNil)))) cNil)) (gNm 10)) cNext)) (cIfS (cTst (c2 (kLt) (cVar 3) (cK (.fr (.int 6))))) (cAsg (cFn (g1 gTpl) (cCons (cLc [] [12] (cRng1 (cCons (cVar 1) cNil)) (gNm 12) cYes (cFrz (cCall [0] S__law_number (cCons (cVar 0) (cCons (cVar 3) cNil))))) cNil)) (gNm 10)) (cSeq (cAsg (cFrz (c2 gAdd (c2 gAdd (cVar 7) (cK (.fr (.int 1)))) (cCall [0] S__law_next (cCons (cVar 0) (cCons (c2 gIx (cLst (cCons (cK (.fr (.int 4))) (cCons (cK (.fr (.int 80000000))) cNil))) (c2 kSub (cVar 3) (cK (.fr (.int 6))))) cNil))))) (gNm 7)) (cSeq (cAsg (cTup (cCons (cVar 7) (cCons (c2 kSub (c2 kSub (c2 gIx (cLst (cCons (cK (.fr (.int 100))) (cCons (cK (.fr (.int 0))) cNil))) (c2 kSub (cVar 3) (cK (.fr (.int 6))))) (cVar 7)) (cCall [0] S__law_next (cCons (cVar 0) (cCons (cK (.fr (.int 2))) cNil)))) cNil))) (gNm 10)) (cAsg (cFrz (cSl (c2 gAdd (cVar 10) (cTup (cCons (cFrz (cCall [0] S__law_next (cCons (cVar 0) (cCons (cK (.fr (.int 9))) cNil)))) (cCons (cFrz (cCall [0] S__law_next (cCons (cVar 0) (cCons (cK (.fr (.int 9))) cNil)))) cNil)))) cNoP (cPt (cVar 1)))) (gNm 10)))))) (cDrop (cMth' gIns (cVar 6) (cCons (cFrz (cCall [0] S__law_next (cCons (cVar 0) (cCons (c2 gAdd (cFn (g1 gLen) (cCons (cVar 6) cNil)) (cK (.fr (.int 1)))) cNil)))) (cCons (cVar 10) cNil))))))) (cRet (cFn (g1 gTplE) (cCons (cVar 6) cNil))))))))))
theorem r__law_points : ∀ ds Q0 E0, S__law_points ds Q0 E0 → t__law_points (dEnds Q0) (ds ++ List.replicate (N__law_points.length - 3) .gone) := by
  rintro ds Q0 E0 ⟨l, n, m, most, hP, hn, hm1, hm4, ho1, ho, rfl, q⟩
  simp only [N__law_points, List.length_cons, List.length_nil, List.cons_append, List.nil_append, Nat.reduceAdd, Nat.reduceSub, Nat.zero_add, List.replicate_succ, List.replicate_zero]; unfold t__law_points
  o_attr
  refine ⟨_, _, _, hP, by omega, by omega, by omega, rfl, fun l way ds1 hP h0way h1way e1 => ?_⟩; ((with_reducible apply s_up); (· (first | (simp only [upds, List.set_cons_zero, List.set_cons_succ, Option.getD_some, e1]; done) | (simp only [upds, List.set_cons_zero, List.set_cons_succ, Option.getD_some, e1]; rfl)))); o_attr
  o_norm
  refine ⟨_, _, _, hP, by omega, by omega, by omega, rfl, fun l size ds1 hP h0size h1size e1 => ?_⟩; ((with_reducible apply s_up); (· (first | (simp only [upds, List.set_cons_zero, List.set_cons_succ, Option.getD_some, e1]; done) | (simp only [upds, List.set_cons_zero, List.set_cons_succ, Option.getD_some, e1]; rfl)))); o_attr
  o_args
  o_attr
  o_args
  with_reducible refine s_seqCut (fun st => ∃ (l : List PyData) (many : Nat), Deck (n + 3) l ∧ many ≤ most ∧ st = [.ow l, .fr (.int (m : Nat)), .fr (.int (most : Nat)), .fr (.int way), .fr (.int size), .fr (.int (many : Nat)), .gone, .gone, .gone, .gone, .gone, .gone, .gone]) (fun K hK => ?_) ?_
  · o_attr
    · refine s_ixI (f := fun z => z = (most : Nat) ∨ z = 5) rfl (atI_in [(most : Nat), 5] rfl (by omega) (by simp only [List.length_cons, List.length_nil]; omega) (by simp)) fun z hz => ?_
      o_attr
      refine ⟨_, _, _, hP, by omega, by omega, by omega, rfl, fun l many ds1 hP h0many h1many e1 => ?_⟩; ((with_reducible apply s_up); (· (first | (simp only [upds, List.set_cons_zero, List.set_cons_succ, Option.getD_some, e1]; done) | (simp only [upds, List.set_cons_zero, List.set_cons_succ, Option.getD_some, e1]; rfl)))); o_attr
      obtain ⟨k, rfl⟩ : ∃ k : Nat, many = (k : Int) := ⟨many.toNat, by omega⟩
      o_args
      exact hK _ ⟨_, k, hP.mono (by omega), by omega, rfl⟩
    · exact hK _ ⟨l, most, hP.mono (by omega), Nat.le_refl _, rfl⟩
  rintro st ⟨l, many, hP, hmany, rfl⟩
  o_norm
  refine s_ixI (f := fun z => True) rfl (atI_in [0, 0 - 1000000000] rfl (by omega) (by simp only [List.length_cons, List.length_nil]; omega) (fun _ _ => trivial)) fun low _ => ?_
  o_norm
  refine s_rng1K (by omega) (by omega) ?_
  o_attr
  refine s_forMap (List.range many) (fun (i : Nat) => .int (i : Int)) (fun l2 st => ∃ (l : List PyData) (c : Nat) (qs : List (List Int)) (low : Int) (d8 d9 d10 : Vl), Deck c l ∧ c + 30 * l2.length ≤ n + 800 ∧ qs.length + l2.length = many ∧ (∀ p ∈ qs, p.length = m) ∧
    st = [.ow l, .fr (.int (m : Nat)), .fr (.int (most : Nat)), .fr (.int way), .fr (.int size), .fr (.int (many : Nat)), .ow (qs.map pt), .fr (.int low), d8, d9, d10, .gone, .gone]) (rngN many) trivial ⟨l, _, [], low, _, _, _, hP, by rw [List.length_range]; omega, by rw [List.length_range]; exact Nat.zero_add _, (by intro p h; cases h), rfl⟩ ?_ ?_
  · rintro i l2 st ⟨l, c, qs, low, d8, d9, d10, hP, hc, hqs, hqm, rfl⟩ K hK
    rw [List.length_cons] at hc hqs
    have hql : (List.map pt qs).length = qs.length := List.length_map _
    o_norm
    refine ⟨_, _, _, hP, by omega, by omega, by omega, rfl, fun l alike ds1 hP h0alike h1alike e1 => ?_⟩; ((with_reducible apply s_up); (· (first | (simp only [upds, List.set_cons_zero, List.set_cons_succ, Option.getD_some, e1]; done) | (simp only [upds, List.set_cons_zero, List.set_cons_succ, Option.getD_some, e1]; rfl)))); o_attr
    o_args
    with_reducible refine s_seqCut (fun st => ∃ (l : List PyData) (c' : Nat) (low : Int) (p : List Int), Deck c' l ∧ c' ≤ c + 25 ∧ p.length = m ∧
      st = [.ow l, .fr (.int (m : Nat)), .fr (.int (most : Nat)), .fr (.int way), .fr (.int size), .fr (.int (many : Nat)), .ow (qs.map pt), .fr (.int low), .fr (.int (i : Nat)), .fr (.int alike), .fr (pt p), .gone, .gone]) (fun K hK => ?_) ?_
    · o_attr
      · refine s_rng1K (by omega) (by omega) ?_
        o_attr
        apply s_lcDraw 0 (List.range m) (fun (i : Nat) => .int (i : Int)) PyData.int Deck (fun _ => True) 1 (rngN m); (· intro L; (first | (simp only [wipeD, List.set_cons_zero, List.set_cons_succ]; done) | (simp only [wipeD, List.set_cons_zero, List.set_cons_succ]; rfl))); (· (first | (simp only [wipeD, List.set_cons_zero, List.set_cons_succ, List.getElem?_cons_zero, List.getElem?_cons_succ]; done) | (simp only [wipeD, List.set_cons_zero, List.set_cons_succ, List.getElem?_cons_zero, List.getElem?_cons_succ]; rfl))); (· intro L; first | trivial | rfl | exact ⟨rfl, rfl⟩)
        · rw [List.length_range]; exact small (k := 10) (by omega)
        · exact hP
        · intro j _ c L hP hc K hK
          rw [List.length_range] at hc
          o_norm
          refine ⟨_, _, _, hP, by omega, h0way, rfl, fun l x ds1 hP h1 => ?_⟩
          ((with_reducible apply s_up); (· (first | (simp only [upds, List.set_cons_zero, List.set_cons_succ, Option.getD_some, h1]; done) | (simp only [upds, List.set_cons_zero, List.set_cons_succ, Option.getD_some, h1]; rfl))))
          o_attr
          exact hK _ _ hP trivial
        intro l xs hP hxs _
        rw [List.length_range] at hP hxs
        o_norm
        exact hK _ ⟨_, _, _, xs, hP, by omega, hxs, rfl⟩
      · refine s_ixI (f := fun z => 0 < z ∧ z < 100000000) rfl (atI_in [4, 80000000] rfl (by omega) (by simp only [List.length_cons, List.length_nil]; omega) (by decide)) fun z hz => ?_
        o_attr
        refine ⟨_, _, _, hP, by omega, by omega, by omega, rfl, fun l step ds1 hP h0step h1step e1 => ?_⟩; ((with_reducible apply s_up); (· (first | (simp only [upds, List.set_cons_zero, List.set_cons_succ, Option.getD_some, e1]; done) | (simp only [upds, List.set_cons_zero, List.set_cons_succ, Option.getD_some, e1]; rfl)))); o_attr
        o_norm
        refine s_ixI (f := fun z => True) rfl (atI_in [100, 0] rfl (by omega) (by simp only [List.length_cons, List.length_nil]; omega) (fun _ _ => trivial)) fun z2 _ => ?_
        o_attr
        refine ⟨_, _, _, hP, by omega, by omega, by omega, rfl, fun l back ds1 hP h0back h1back e1 => ?_⟩; ((with_reducible apply s_up); (· (first | (simp only [upds, List.set_cons_zero, List.set_cons_succ, Option.getD_some, e1]; done) | (simp only [upds, List.set_cons_zero, List.set_cons_succ, Option.getD_some, e1]; rfl)))); o_attr
        o_norm
        refine ⟨_, _, _, hP, by omega, by omega, by omega, rfl, fun l n1 ds1 hP h0n1 h1n1 e1 => ?_⟩; ((with_reducible apply s_up); (· (first | (simp only [upds, List.set_cons_zero, List.set_cons_succ, Option.getD_some, e1]; done) | (simp only [upds, List.set_cons_zero, List.set_cons_succ, Option.getD_some, e1]; rfl)))); o_attr
        o_attr
        refine ⟨_, _, _, hP, by omega, by omega, by omega, rfl, fun l n2 ds1 hP h0n2 h1n2 e1 => ?_⟩; ((with_reducible apply s_up); (· (first | (simp only [upds, List.set_cons_zero, List.set_cons_succ, Option.getD_some, e1]; done) | (simp only [upds, List.set_cons_zero, List.set_cons_succ, Option.getD_some, e1]; rfl)))); o_attr
        o_attr
        rw [cut_take]
        o_norm
        exact hK _ ⟨_, _, _, ([low + 1 + step, z2 - (low + 1 + step) - back] ++ [n1, n2]).take m, hP, by omega, by rw [List.length_take]; show min m 4 = m; omega, by rw [pt, List.map_take]; rfl⟩
      · have hne : qs ≠ [] := fun z => by subst z; contradiction
        have hpos := List.length_pos_iff.mpr hne
        rw [hql]
        refine ⟨_, _, _, hP, by omega, by omega, by omega, rfl, fun l j ds1 hP h0j h1j e1 => ?_⟩; ((with_reducible apply s_up); (· (first | (simp only [upds, List.set_cons_zero, List.set_cons_succ, Option.getD_some, e1]; done) | (simp only [upds, List.set_cons_zero, List.set_cons_succ, Option.getD_some, e1]; rfl)))); o_attr
        obtain ⟨k, rfl⟩ : ∃ k : Nat, j = (k : Int) := ⟨j.toNat, by omega⟩
        refine s_ixL rfl (ptsAt (by omega)) ?_
        have hjm := hqm _ (getD_mem (ps := qs) (i := k) (by omega))
        o_args
        o_attr
        · apply s_lcDraw 0 (qs.getD k []) PyData.int PyData.int Deck (fun _ => True) 1 rfl; (· intro L; (first | (simp only [wipeD, List.set_cons_zero, List.set_cons_succ]; done) | (simp only [wipeD, List.set_cons_zero, List.set_cons_succ]; rfl))); (· (first | (simp only [wipeD, List.set_cons_zero, List.set_cons_succ, List.getElem?_cons_zero, List.getElem?_cons_succ]; done) | (simp only [wipeD, List.set_cons_zero, List.set_cons_succ, List.getElem?_cons_zero, List.getElem?_cons_succ]; rfl))); (· intro L; first | trivial | rfl | exact ⟨rfl, rfl⟩)
          · rw [hjm]; exact small (k := 10) (by omega)
          · exact hP
          · intro j _ c L hP hc K hK
            rw [hjm] at hc
            o_norm
            refine ⟨_, _, _, hP, by omega, by omega, by omega, rfl, fun l x ds1 hP h0x h1x e1 => ?_⟩; ((with_reducible apply s_up); (· (first | (simp only [upds, List.set_cons_zero, List.set_cons_succ, Option.getD_some, e1]; done) | (simp only [upds, List.set_cons_zero, List.set_cons_succ, Option.getD_some, e1]; rfl)))); o_attr
            exact hK _ _ hP trivial
          intro l xs hP hxs _
          rw [hjm] at hP hxs
          o_norm
          exact hK _ ⟨_, _, _, xs, hP, by omega, hxs, rfl⟩
        · exact hK _ ⟨_, _, _, _, hP, by omega, hjm, rfl⟩
      · refine s_rng1K (by omega) (by omega) ?_
        o_attr
        apply s_lcDraw 0 (List.range m) (fun (i : Nat) => .int (i : Int)) PyData.int Deck (fun _ => True) 1 (rngN m); (· intro L; (first | (simp only [wipeD, List.set_cons_zero, List.set_cons_succ]; done) | (simp only [wipeD, List.set_cons_zero, List.set_cons_succ]; rfl))); (· (first | (simp only [wipeD, List.set_cons_zero, List.set_cons_succ, List.getElem?_cons_zero, List.getElem?_cons_succ]; done) | (simp only [wipeD, List.set_cons_zero, List.set_cons_succ, List.getElem?_cons_zero, List.getElem?_cons_succ]; rfl))); (· intro L; first | trivial | rfl | exact ⟨rfl, rfl⟩)
        · rw [List.length_range]; exact small (k := 10) (by omega)
        · exact hP
        · intro j _ c L hP hc K hK
          rw [List.length_range] at hc
          o_norm
          refine ⟨_, _, _, hP, by omega, h0way, rfl, fun l x ds1 hP h1 => ?_⟩
          ((with_reducible apply s_up); (· (first | (simp only [upds, List.set_cons_zero, List.set_cons_succ, Option.getD_some, h1]; done) | (simp only [upds, List.set_cons_zero, List.set_cons_succ, Option.getD_some, h1]; rfl))))
          o_attr
          exact hK _ _ hP trivial
        intro l xs hP hxs _
        rw [List.length_range] at hP hxs
        o_norm
        exact hK _ ⟨_, _, _, xs, hP, by omega, hxs, rfl⟩
      · refine s_ixI (f := fun z => 0 < z ∧ z < 100000000) rfl (atI_in [4, 80000000] rfl (by omega) (by simp only [List.length_cons, List.length_nil]; omega) (by decide)) fun z hz => ?_
        o_attr
        refine ⟨_, _, _, hP, by omega, by omega, by omega, rfl, fun l step ds1 hP h0step h1step e1 => ?_⟩; ((with_reducible apply s_up); (· (first | (simp only [upds, List.set_cons_zero, List.set_cons_succ, Option.getD_some, e1]; done) | (simp only [upds, List.set_cons_zero, List.set_cons_succ, Option.getD_some, e1]; rfl)))); o_attr
        o_norm
        refine s_ixI (f := fun z => True) rfl (atI_in [100, 0] rfl (by omega) (by simp only [List.length_cons, List.length_nil]; omega) (fun _ _ => trivial)) fun z2 _ => ?_
        o_attr
        refine ⟨_, _, _, hP, by omega, by omega, by omega, rfl, fun l back ds1 hP h0back h1back e1 => ?_⟩; ((with_reducible apply s_up); (· (first | (simp only [upds, List.set_cons_zero, List.set_cons_succ, Option.getD_some, e1]; done) | (simp only [upds, List.set_cons_zero, List.set_cons_succ, Option.getD_some, e1]; rfl)))); o_attr
        o_norm
        refine ⟨_, _, _, hP, by omega, by omega, by omega, rfl, fun l n1 ds1 hP h0n1 h1n1 e1 => ?_⟩; ((with_reducible apply s_up); (· (first | (simp only [upds, List.set_cons_zero, List.set_cons_succ, Option.getD_some, e1]; done) | (simp only [upds, List.set_cons_zero, List.set_cons_succ, Option.getD_some, e1]; rfl)))); o_attr
        o_attr
        refine ⟨_, _, _, hP, by omega, by omega, by omega, rfl, fun l n2 ds1 hP h0n2 h1n2 e1 => ?_⟩; ((with_reducible apply s_up); (· (first | (simp only [upds, List.set_cons_zero, List.set_cons_succ, Option.getD_some, e1]; done) | (simp only [upds, List.set_cons_zero, List.set_cons_succ, Option.getD_some, e1]; rfl)))); o_attr
        o_attr
        rw [cut_take]
        o_norm
        exact hK _ ⟨_, _, _, ([low + 1 + step, z2 - (low + 1 + step) - back] ++ [n1, n2]).take m, hP, by omega, by rw [List.length_take]; show min m 4 = m; omega, by rw [pt, List.map_take]; rfl⟩
    · rintro st ⟨l, c', low, p, hP, hc', hp, rfl⟩
      o_attr
      rw [hql]
      refine ⟨_, _, _, hP, by omega, by omega, by omega, rfl, fun l at_ ds1 hP h0at_ h1at_ e1 => ?_⟩; ((with_reducible apply s_up); (· (first | (simp only [upds, List.set_cons_zero, List.set_cons_succ, Option.getD_some, e1]; done) | (simp only [upds, List.set_cons_zero, List.set_cons_succ, Option.getD_some, e1]; rfl)))); o_attr
      refine s_ins (by rw [hql]; exact Nat.lt_of_lt_of_le (show qs.length < 1000 by omega) (small (Nat.le_refl _))) (by omega) (by omega) ?_
      o_attr
      rw [← List.map_take, ← List.map_drop, ← List.map_singleton, ← List.map_append, ← List.map_append]
      exact hK _ ⟨_, _, qs.take at_.toNat ++ [p] ++ qs.drop at_.toNat, low, _, _, _, hP, by omega, by simp only [List.length_append, List.length_take, List.length_drop, List.length_singleton]; omega, fun x hx => by
        simp only [List.mem_append, List.mem_singleton] at hx
        rcases hx with (h | h) | h
        · exact hqm x (List.mem_of_mem_take h)
        · rw [h]; exact hp
        · exact hqm x (List.mem_of_mem_drop h), rfl⟩ trivial
  · rintro st ⟨l, c, qs, low, d8, d9, d10, hP, hc, hqs, hqm, rfl⟩
    simp only [List.length_nil] at hc hqs
    o_attr
    exact q _ _ _ (hP.mono (by omega)) (by omega) hqm rfl
/-! _law_loss -/
def S__law_loss : VSp := fun ds Q _ => ∃ (l : List PyData) (n m : Nat) (ps : List (List Int)), Deck n l ∧ n < 2 ^ 38 ∧ 1 ≤ m ∧ m ≤ 4 ∧ ps.length ≤ 100 ∧ (∀ p ∈ ps, p.length = m) ∧ ds = [.ow l, .fr (pts ps)] ∧ ∀ l' (v : Int) ds', Deck (n + 10) l' → ds'[0]? = some (.ow l') → lossOk v = true → Q (.fr (.int v)) ds'
theorem len__law_loss : ∀ ds Q E, S__law_loss ds Q E → ds.length = 2 := by rintro _ _ _ ⟨_, _, _, _, _, _, _, _, _, _, rfl, _⟩; rfl
abbrev N__law_loss : List Str := ["_law_deck_here", "_law_points_here", "_law_way", "_law_one", "_law_other", "_law_measure", "_law_far"]
def t__law_loss : DTS := (cSeq (cAsg (cFrz (cCall [0] S__law_next (cCons (cVar 0) (cCons (cK (.fr (.int 7))) cNil)))) (gNm 2)) (cSeq (cIfS (cTst (c2 (kLt) (cVar 2) (cK (.fr (.int 3))))) (cRet (cFrz (cCall [0] S__law_next (cCons (cVar 0) (cCons (c2 gIx (cLst (cCons (cK (.fr (.int 4))) (cCons (cK (.fr (.int 30))) (cCons (c2 gAdd (c2 kMul (cK (.fr (.int 2))) (c2 kPow (cK (.fr (.int 10))) (cK (.fr (.int 9))))) (cK (.fr (.int 1)))) cNil)))) (cVar 2)) cNil))))) cNext) (cSeq (cIfS (cOr (cTst (c2 (gEq false) (cVar 2) (cK (.fr (.int 3))))) (cTst (c2 (gEq false) (cVar 1) (cTup cNil)))) (cRet (c2 gIx (cLst (cCons (cK (.fr (.int 0))) (cCons (c2 kMul (cK (.fr (.int 2))) (c2 kPow (cK (.fr (.int 10))) (cK (.fr (.int 9))))) (cCons (cK (.fr (.int 1))) cNil)))) (cCall [0] S__law_next (cCons (cVar 0) (cCons (cK (.fr (.int 3))) cNil))))) cNext) (cSeq (cAsg (c2 gIx (cVar 1) (cCall [0] S__law_next (cCons (cVar 0) (cCons (cFn (g1 gLen) (cCons (cVar 1) cNil)) cNil)))) (gNm 3)) (cSeq (cAsg (c2 gIx (cVar 1) (cCall [0] S__law_next (cCons (cVar 0) (cCons (cFn (g1 gLen) (cCons (cVar 1) cNil)) cNil)))) (gNm 4)) (cSeq (cAsg (cFrz (cCall [0] S__law_next (cCons (cVar 0) (cCons (cFn (g1 gLen) (cCons (cVar 3) cNil)) cNil)))) (gNm 5)) (cSeq (cAsg (cFn (g1 gAbs) (cCons (c2 kSub (c2 gIx (cVar 3) (cVar 5)) (c2 gIx (cVar 4) (cVar 5))) cNil)) (gNm 6)) (cRet (cFn (g2I fun i j => max i j) (cCons (cK (.fr (.int 0))) (cCons (cFn (g2I fun i j => min i j) (cCons (c2 kMul (cK (.fr (.int 2))) (c2 kPow (cK (.fr (.int 10))) (cK (.fr (.int 9))))) (cCons (c2 kSub (c2 gAdd (cVar 6) (cCall [0] S__law_next (cCons (cVar 0) (cCons (cK (.fr (.int 3))) cNil)))) (cK (.fr (.int 1)))) cNil))) cNil)))))))))))
theorem r__law_loss : ∀ ds Q0 E0, S__law_loss ds Q0 E0 → t__law_loss (dEnds Q0) (ds ++ List.replicate (N__law_loss.length - 2) .gone) := by
  rintro ds Q0 E0 ⟨l, n, m, ps, hP, hn, hm1, hm4, hps, hpm, rfl, q⟩
  have hml : (List.map pt ps).length = ps.length := List.length_map _
  simp only [N__law_loss, List.length_cons, List.length_nil, List.cons_append, List.nil_append, Nat.reduceAdd, Nat.reduceSub, Nat.zero_add, List.replicate_succ, List.replicate_zero]; unfold t__law_loss
  o_attr
  refine ⟨_, _, _, hP, by omega, by omega, by omega, rfl, fun l way ds1 hP h0way h1way e1 => ?_⟩; ((with_reducible apply s_up); (· (first | (simp only [upds, List.set_cons_zero, List.set_cons_succ, Option.getD_some, e1]; done) | (simp only [upds, List.set_cons_zero, List.set_cons_succ, Option.getD_some, e1]; rfl)))); o_attr
  o_args
  o_attr
  · refine s_ixI (f := fun z => 0 < z ∧ z ≤ 2000000001) rfl (atI_in [4, 30, 2000000001] rfl (by omega) (by simp only [List.length_cons, List.length_nil]; omega) (by decide)) fun z hz => ?_
    o_attr
    refine ⟨_, _, _, hP, by omega, by omega, by omega, rfl, fun l x ds1 hP h0x h1x e1 => ?_⟩; ((with_reducible apply s_up); (· (first | (simp only [upds, List.set_cons_zero, List.set_cons_succ, Option.getD_some, e1]; done) | (simp only [upds, List.set_cons_zero, List.set_cons_succ, Option.getD_some, e1]; rfl)))); o_attr
    exact q _ _ _ (hP.mono (by omega)) rfl (lossOk_iff.mpr (by omega))
  · refine ⟨_, _, _, hP, by omega, by omega, by omega, rfl, fun l j ds1 hP h0j h1j e1 => ?_⟩; ((with_reducible apply s_up); (· (first | (simp only [upds, List.set_cons_zero, List.set_cons_succ, Option.getD_some, e1]; done) | (simp only [upds, List.set_cons_zero, List.set_cons_succ, Option.getD_some, e1]; rfl)))); o_attr
    refine s_ixI (f := fun z => 0 ≤ z ∧ z ≤ 2000000000) rfl (atI_in [0, 2000000000, 1] rfl (by omega) (by simp only [List.length_cons, List.length_nil]; omega) (by decide)) fun z hz => ?_
    o_attr
    exact q _ _ _ (hP.mono (by omega)) rfl (lossOk_iff.mpr (by omega))
  · refine s_brEq (show PyData.eqv (pts ps) (.tuple []) = decide (ps = []) from eqv_pts ps []) ?_
    refine s_brD (fun he => ?_) (fun he => ?_)
    · o_attr
      refine ⟨_, _, _, hP, by omega, by omega, by omega, rfl, fun l j ds1 hP h0j h1j e1 => ?_⟩; ((with_reducible apply s_up); (· (first | (simp only [upds, List.set_cons_zero, List.set_cons_succ, Option.getD_some, e1]; done) | (simp only [upds, List.set_cons_zero, List.set_cons_succ, Option.getD_some, e1]; rfl)))); o_attr
      refine s_ixI (f := fun z => 0 ≤ z ∧ z ≤ 2000000000) rfl (atI_in [0, 2000000000, 1] rfl (by omega) (by simp only [List.length_cons, List.length_nil]; omega) (by decide)) fun z hz => ?_
      o_attr
      exact q _ _ _ (hP.mono (by omega)) rfl (lossOk_iff.mpr (by omega))
    · have hpos := List.length_pos_iff.mpr he
      o_attr
      rw [hml]
      refine ⟨_, _, _, hP, by omega, by omega, by omega, rfl, fun l a ds1 hP h0a h1a e1 => ?_⟩; ((with_reducible apply s_up); (· (first | (simp only [upds, List.set_cons_zero, List.set_cons_succ, Option.getD_some, e1]; done) | (simp only [upds, List.set_cons_zero, List.set_cons_succ, Option.getD_some, e1]; rfl)))); o_attr
      refine s_ixT rfl (ptsAtI h0a h1a) ?_
      have ha := hpm _ (getD_memI h0a h1a)
      obtain ⟨xs, exs⟩ : ∃ xs, ps.getD a.toNat [] = xs := ⟨_, rfl⟩
      rw [exs] at ha ⊢
      o_args
      o_attr
      rw [hml]
      refine ⟨_, _, _, hP, by omega, by omega, by omega, rfl, fun l b ds1 hP h0b h1b e1 => ?_⟩; ((with_reducible apply s_up); (· (first | (simp only [upds, List.set_cons_zero, List.set_cons_succ, Option.getD_some, e1]; done) | (simp only [upds, List.set_cons_zero, List.set_cons_succ, Option.getD_some, e1]; rfl)))); o_attr
      refine s_ixT rfl (ptsAtI h0b h1b) ?_
      have hb := hpm _ (getD_memI h0b h1b)
      obtain ⟨ys, eys⟩ : ∃ ys, ps.getD b.toNat [] = ys := ⟨_, rfl⟩
      rw [eys] at hb ⊢
      o_args
      have hxl : (List.map PyData.int xs).length = m := by rw [List.length_map, ha]
      o_attr
      rw [hxl]
      refine ⟨_, _, _, hP, by omega, by omega, by omega, rfl, fun l j ds1 hP h0j h1j e1 => ?_⟩; ((with_reducible apply s_up); (· (first | (simp only [upds, List.set_cons_zero, List.set_cons_succ, Option.getD_some, e1]; done) | (simp only [upds, List.set_cons_zero, List.set_cons_succ, Option.getD_some, e1]; rfl)))); o_attr
      obtain ⟨k, rfl⟩ : ∃ k : Nat, j = (k : Int) := ⟨j.toNat, by omega⟩
      o_args
      have e1 := intsAt (xs := xs) (i := k) (by omega)
      have e2 := intsAt (xs := ys) (i := k) (by omega)
      o_norm
      refine ⟨_, _, _, hP, by omega, by omega, by omega, rfl, fun l x ds1 hP h0x h1x e1 => ?_⟩; ((with_reducible apply s_up); (· (first | (simp only [upds, List.set_cons_zero, List.set_cons_succ, Option.getD_some, e1]; done) | (simp only [upds, List.set_cons_zero, List.set_cons_succ, Option.getD_some, e1]; rfl)))); o_attr
      exact q _ _ _ (hP.mono (by omega)) rfl (lossOk_iff.mpr (by omega))
/-! _law_no_loss -/
def S__law_no_loss : VSp := fun ds Q _ => ∃ l n, Deck n l ∧ n < 2 ^ 39 ∧ ds = [.ow l] ∧ ∀ l' (x : Int) ds', Deck (n + 2) l' → ds'[0]? = some (.ow l') → lossOk x = false → Q (.fr (.int x)) ds'
theorem len__law_no_loss : ∀ ds Q E, S__law_no_loss ds Q E → ds.length = 1 := by rintro _ _ _ ⟨_, _, _, _, rfl, _⟩; rfl
abbrev N__law_no_loss : List Str := ["_law_deck_here", "_law_way", "_law_far"]
def t__law_no_loss : DTS := (cSeq (cAsg (cFrz (cCall [0] S__law_next (cCons (cVar 0) (cCons (cK (.fr (.int 5))) cNil)))) (gNm 1)) (cSeq (cAsg (cFrz (cCall [0] S__law_next (cCons (cVar 0) (cCons (c2 kPow (cK (.fr (.int 10))) (cK (.fr (.int 9)))) cNil)))) (gNm 2)) (cRet (c2 gIx (cLst (cCons (c1 gNeg (cK (.fr (.int 1)))) (cCons (c2 gAdd (c2 kMul (cK (.fr (.int 2))) (c2 kPow (cK (.fr (.int 10))) (cK (.fr (.int 9))))) (cK (.fr (.int 1)))) (cCons (c2 kSub (c2 kSub (cK (.fr (.int 0))) (cK (.fr (.int 1)))) (cVar 2)) (cCons (c2 gAdd (c2 gAdd (c2 kMul (cK (.fr (.int 2))) (c2 kPow (cK (.fr (.int 10))) (cK (.fr (.int 9))))) (cK (.fr (.int 1)))) (cVar 2)) (cCons (c2 kPow (cK (.fr (.int 10))) (cK (.fr (.int 59)))) cNil)))))) (cVar 1)))))
theorem r__law_no_loss : ∀ ds Q0 E0, S__law_no_loss ds Q0 E0 → t__law_no_loss (dEnds Q0) (ds ++ List.replicate (N__law_no_loss.length - 1) .gone) := by
  rintro ds Q0 E0 ⟨l, n, hP, hn, rfl, q⟩
  simp only [N__law_no_loss, List.length_cons, List.length_nil, List.cons_append, List.nil_append, Nat.reduceAdd, Nat.reduceSub, Nat.zero_add, List.replicate_succ, List.replicate_zero]; unfold t__law_no_loss
  o_attr
  refine ⟨_, _, _, hP, by omega, by omega, by omega, rfl, fun l way ds1 hP h0way h1way e1 => ?_⟩; ((with_reducible apply s_up); (· (first | (simp only [upds, List.set_cons_zero, List.set_cons_succ, Option.getD_some, e1]; done) | (simp only [upds, List.set_cons_zero, List.set_cons_succ, Option.getD_some, e1]; rfl)))); o_attr
  o_norm
  refine ⟨_, _, _, hP, by omega, by omega, by omega, rfl, fun l far ds1 hP h0far h1far e1 => ?_⟩; ((with_reducible apply s_up); (· (first | (simp only [upds, List.set_cons_zero, List.set_cons_succ, Option.getD_some, e1]; done) | (simp only [upds, List.set_cons_zero, List.set_cons_succ, Option.getD_some, e1]; rfl)))); o_attr
  o_norm
  refine s_ixI (f := fun z => z < 0 ∨ 2000000000 < z) rfl (atI_in [-1, 2000000001, 0 - 1 - far, 2000000001 + far, 100000000000000000000000000000000000000000000000000000000000] rfl h0way h1way fun x hx => ?_) fun z hz => ?_
  · simp only [List.mem_cons, List.not_mem_nil, or_false] at hx
    omega
  o_attr
  exact q _ _ _ hP rfl (lossOk_not hz)
/-! _law_stands -/
def S__law_stands : VSp := fun ds Q _ => ∃ (xs ys : List Int) (v : Int), xs.length ≤ 10 ∧ ys.length ≤ 10 ∧ ds = [.fr (pt xs), .fr (pt ys), .fr (.int v)] ∧ ∀ ds', Q (.fr (.bool (stands xs ys v))) ds'
theorem len__law_stands : ∀ ds Q E, S__law_stands ds Q E → ds.length = 3 := by rintro _ _ _ ⟨_, _, _, _, _, rfl, _⟩; rfl
abbrev N__law_stands : List Str := ["_law_one", "_law_other", "_law_loss_here", "_law_here", "_law_there"]
def t__law_stands : DTS := (cRet (c2 (gEq false) (cLc [] [3, 4] (cZip2 (cCons (cVar 0) (cCons (cVar 1) cNil))) (gTu 2 (gsCons (gNm 3) (gsCons (gNm 4) gsNil))) (cTst (c2 (kLt) (c2 gAdd (cVar 3) (cVar 2)) (cVar 4))) (cK (.fr (.int 1)))) (cLst cNil)))
theorem r__law_stands : ∀ ds Q0 E0, S__law_stands ds Q0 E0 → t__law_stands (dEnds Q0) (ds ++ List.replicate (N__law_stands.length - 3) .gone) := by
  rintro ds Q0 E0 ⟨xs, ys, v, hx, hy, rfl, q⟩
  simp only [N__law_stands, List.length_cons, List.length_nil, List.cons_append, List.nil_append, Nat.reduceAdd, Nat.reduceSub, Nat.zero_add, List.replicate_succ, List.replicate_zero]; unfold t__law_stands
  o_attr
  apply s_lcMap (xs.zip ys) _ (fun p => if decide (p.1 + v < p.2) = true then some (.int 1) else none) (zip_ints xs ys); (· (first | (simp only [wipeD, List.set_cons_zero, List.set_cons_succ]; done) | (simp only [wipeD, List.set_cons_zero, List.set_cons_succ]; rfl))); (· (first | (simp only [rst, List.set_cons_zero, List.set_cons_succ, Option.getD_some, List.getElem?_cons_zero, List.getElem?_cons_succ]; done) | (simp only [rst, List.set_cons_zero, List.set_cons_succ, Option.getD_some, List.getElem?_cons_zero, List.getElem?_cons_succ]; rfl)))
  · exact ⟨rfl, rfl⟩
  · rw [List.length_zip]; exact small (k := 10) (by omega)
  · intro p _ K hK
    o_norm
    · rw [if_pos (decide_eq_true h)] at hK
      exact hK
    · rw [if_neg (by rw [decide_eq_true_eq]; exact h)] at hK
      exact hK
  rw [fmap_if]
  o_attr
  rw [stands_empty]
  exact q _
/-! _law_covers -/
def S__law_covers : VSp := fun ds Q _ => ∃ (ps : List (List Int)) (v : Int) (xs : List Int), Pts ps ∧ xs.length ≤ 1000 ∧ (∀ x ∈ xs, 0 ≤ x ∧ x < (ps.length : Nat)) ∧ ds = [.fr (pts ps), .fr (.int v), .fr (pt xs)] ∧ ∀ ds', Q (.fr (.bool (covers ps v xs))) ds'
theorem len__law_covers : ∀ ds Q E, S__law_covers ds Q E → ds.length = 3 := by rintro _ _ _ ⟨_, _, _, _, _, _, rfl, _⟩; rfl
abbrev N__law_covers : List Str := ["_law_points_here", "_law_loss_here", "_law_some", "_law_point", "_law_one"]
def t__law_covers : DTS := (cSeq (cFor [] (cSeqI (cVar 0)) (gNm 3) (cIfS (cTst (c2 (gEq false) (cLc [] [4] (cSeqI (cVar 2)) (gNm 4) (cTst (cCall [] S__law_stands (cCons (c2 gIx (cVar 0) (cVar 4)) (cCons (cVar 3) (cCons (cVar 1) cNil))))) (cK (.fr (.int 1)))) (cLst cNil))) (cRet (cK (.fr (.bool false)))) cNext)) (cRet (cK (.fr (.bool true)))))
theorem r__law_covers : ∀ ds Q0 E0, S__law_covers ds Q0 E0 → t__law_covers (dEnds Q0) (ds ++ List.replicate (N__law_covers.length - 3) .gone) := by
  rintro ds Q0 E0 ⟨ps, v, xs, hp, hx, hin, rfl, q⟩
  simp only [N__law_covers, List.length_cons, List.length_nil, List.cons_append, List.nil_append, Nat.reduceAdd, Nat.reduceSub, Nat.zero_add, List.replicate_succ, List.replicate_zero]; unfold t__law_covers
  o_attr
  refine s_forMap ps pt (fun l' st => (∃ d3, st = [.fr (pts ps), .fr (.int v), .fr (pt xs), d3, .gone]) ∧ (∀ p ∈ l', p ∈ ps) ∧ covers ps v xs = l'.all fun p => xs.any fun x => stands (ps.getD x.toNat []) p v) rfl trivial ⟨⟨_, rfl⟩, fun _ h => h, rfl⟩ ?_ ?_
  · rintro p l' st ⟨⟨d3, rfl⟩, hl, he⟩ K hK
    have hpp := hl p List.mem_cons_self
    rw [List.all_cons] at he
    o_norm
    apply s_lcMap xs .int (fun x => if stands (ps.getD x.toNat []) p v = true then some (.int 1) else none) rfl; (· (first | (simp only [wipeD, List.set_cons_zero, List.set_cons_succ]; done) | (simp only [wipeD, List.set_cons_zero, List.set_cons_succ]; rfl))); (· (first | (simp only [rst, List.set_cons_zero, List.set_cons_succ, Option.getD_some, List.getElem?_cons_zero, List.getElem?_cons_succ]; done) | (simp only [rst, List.set_cons_zero, List.set_cons_succ, Option.getD_some, List.getElem?_cons_zero, List.getElem?_cons_succ]; rfl)))
    · trivial
    · exact small hx
    · intro x hxx K2 hK2
      obtain ⟨h0, h1⟩ := hin x hxx
      o_norm
      refine s_ixT rfl (ptsAtI h0 h1) ?_
      o_attr
      refine ⟨_, p, v, hp.2 _ (getD_memI h0 h1), hp.2 _ hpp, rfl, fun ds' => ?_⟩
      o_attr
      refine s_br (fun h => ?_) (fun h => ?_)
      · rw [if_pos h] at hK2
        o_attr
        exact hK2
      · rw [if_neg (by rw [h]; exact Bool.false_ne_true)] at hK2
        o_attr
        exact hK2
    rw [fmap_if]
    o_attr
    · rw [met_nil h, Bool.false_and] at he
      rw [he] at q
      exact q _
    · rw [met_some h, Bool.true_and] at he
      exact hK _ ⟨⟨_, rfl⟩, fun p h => hl p (List.mem_cons_of_mem _ h), he⟩ trivial
  · rintro st ⟨⟨d3, rfl⟩, hl, he⟩
    rw [he] at q
    o_attr
    exact q _
/-! _law_rising -/
def S__law_rising : VSp := fun ds Q _ => ∃ (xs : List Int) (n : Int), xs.length ≤ 1000 ∧ ds = [.fr (pt xs), .fr (.int n)] ∧ ∀ ds', Q (.fr (.bool (rises xs n))) ds'
theorem len__law_rising : ∀ ds Q E, S__law_rising ds Q E → ds.length = 2 := by rintro _ _ _ ⟨_, _, _, rfl, _⟩; rfl
abbrev N__law_rising : List Str := ["_law_thing", "_law_many", "_law_place", "_law_one"]
def t__law_rising : DTS := (cSeq (cFor [] (cEnum (cCons (cVar 0) cNil)) (gTu 2 (gsCons (gNm 2) (gsCons (gNm 3) gsNil))) (cIfS (cOr (cNot (cTst (cCh kleb kltb (cK (.fr (.int 0))) (cVar 3) (cVar 1)))) (cAnd (cTst (c2 (kGt) (cVar 2) (cK (.fr (.int 0))))) (cTst (c2 (kLe) (cVar 3) (c2 gIx (cVar 0) (c2 kSub (cVar 2) (cK (.fr (.int 1))))))))) (cRet (cK (.fr (.bool false)))) cNext)) (cRet (cK (.fr (.bool true)))))
theorem r__law_rising : ∀ ds Q0 E0, S__law_rising ds Q0 E0 → t__law_rising (dEnds Q0) (ds ++ List.replicate (N__law_rising.length - 2) .gone) := by
  rintro ds Q0 E0 ⟨xs, n, hx, rfl, q⟩
  simp only [N__law_rising, List.length_cons, List.length_nil, List.cons_append, List.nil_append, Nat.reduceAdd, Nat.reduceSub, Nat.zero_add, List.replicate_succ, List.replicate_zero]; unfold t__law_rising
  o_attr
  refine s_forMap (List.range xs.length) _ (fun l' st => (∃ d2 d3, st = [.fr (pt xs), .fr (.int n), d2, d3]) ∧ (∀ i ∈ l', i < xs.length) ∧ rises xs n = l'.all (riseAt xs n)) (enum_ints xs) rfl ⟨⟨_, _, rfl⟩, fun i h => List.mem_range.mp h, rises_at xs n⟩ ?_ ?_
  · rintro i l' st ⟨⟨d2, d3, rfl⟩, hl, he⟩ K hK
    have hi := hl i List.mem_cons_self
    rw [List.all_cons] at he
    o_norm
    · have e1 := intsAt (xs := xs) (i := i - 1) (by omega)
      rw [show ((i : Int) - 1) = ((i - 1 : Nat) : Int) by omega]
      o_attr
      · rw [show riseAt xs n i = false by unfold riseAt; simp only [Bool.and_eq_false_iff, Bool.or_eq_false_iff, decide_eq_false_iff_not]; right; constructor <;> omega, Bool.false_and] at he
        rw [he] at q
        exact q _
      · rw [show riseAt xs n i = true by unfold riseAt; simp only [Bool.and_eq_true, Bool.or_eq_true, decide_eq_true_eq]; exact ⟨⟨by assumption, by assumption⟩, .inr (by omega)⟩, Bool.true_and] at he
        exact hK _ ⟨⟨_, _, rfl⟩, fun j h => hl j (List.mem_cons_of_mem _ h), he⟩ rfl
    · rw [show riseAt xs n i = true by unfold riseAt; simp only [Bool.and_eq_true, Bool.or_eq_true, decide_eq_true_eq]; exact ⟨⟨by assumption, by assumption⟩, .inl (by omega)⟩, Bool.true_and] at he
      exact hK _ ⟨⟨_, _, rfl⟩, fun j h => hl j (List.mem_cons_of_mem _ h), he⟩ rfl
    all_goals
      rw [show riseAt xs n i = false by unfold riseAt; simp only [Bool.and_eq_false_iff, decide_eq_false_iff_not]; left; omega, Bool.false_and] at he
      rw [he] at q
      exact q _
  · rintro st ⟨⟨d2, d3, rfl⟩, hl, he⟩
    rw [he] at q
    o_attr
    exact q _
/-! _law_parts -/
def S__law_parts : VSp := fun ds Q _ => ∃ (ps : List (List Int)) (v : Int) (xs : List Int), Pts ps ∧ xs.length ≤ 1000 ∧ (∀ x ∈ xs, 0 ≤ x ∧ x < (ps.length : Nat)) ∧ ds = [.fr (pts ps), .fr (.int v), .fr (pt xs)] ∧ ∀ ds', Q (.fr (.bool (aparts ps v xs))) ds'
theorem len__law_parts : ∀ ds Q E, S__law_parts ds Q E → ds.length = 3 := by rintro _ _ _ ⟨_, _, _, _, _, _, rfl, _⟩; rfl
abbrev N__law_parts : List Str := ["_law_points_here", "_law_loss_here", "_law_some", "_law_point", "_law_met", "_law_one"]
def t__law_parts : DTS := (cSeq (cFor [] (cSeqI (cVar 0)) (gNm 3) (cSeq (cAsg (cFrz (cLc [] [5] (cSeqI (cVar 2)) (gNm 5) (cTst (cCall [] S__law_stands (cCons (cVar 3) (cCons (c2 gIx (cVar 0) (cVar 5)) (cCons (cVar 1) cNil))))) (cK (.fr (.int 1))))) (gNm 4)) (cIfS (cTst (c2 (kGt) (cFn (g1 gLen) (cCons (cVar 4) cNil)) (cK (.fr (.int 1))))) (cRet (cK (.fr (.bool false)))) cNext))) (cRet (cK (.fr (.bool true)))))
theorem r__law_parts : ∀ ds Q0 E0, S__law_parts ds Q0 E0 → t__law_parts (dEnds Q0) (ds ++ List.replicate (N__law_parts.length - 3) .gone) := by
  rintro ds Q0 E0 ⟨ps, v, xs, hp, hx, hin, rfl, q⟩
  simp only [N__law_parts, List.length_cons, List.length_nil, List.cons_append, List.nil_append, Nat.reduceAdd, Nat.reduceSub, Nat.zero_add, List.replicate_succ, List.replicate_zero]; unfold t__law_parts
  o_attr
  refine s_forMap ps pt (fun l' st => (∃ d3 d4, st = [.fr (pts ps), .fr (.int v), .fr (pt xs), d3, d4, .gone]) ∧ (∀ p ∈ l', p ∈ ps) ∧ aparts ps v xs = l'.all fun p => decide ((xs.filter fun x => stands p (ps.getD x.toNat []) v).length < 2)) rfl trivial ⟨⟨_, _, rfl⟩, fun _ h => h, rfl⟩ ?_ ?_
  · rintro p l' st ⟨⟨d3, d4, rfl⟩, hl, he⟩ K hK
    have hpp := hl p List.mem_cons_self
    rw [List.all_cons] at he
    o_norm
    apply s_lcMap xs .int (fun x => if stands p (ps.getD x.toNat []) v = true then some (.int 1) else none) rfl; (· (first | (simp only [wipeD, List.set_cons_zero, List.set_cons_succ]; done) | (simp only [wipeD, List.set_cons_zero, List.set_cons_succ]; rfl))); (· (first | (simp only [rst, List.set_cons_zero, List.set_cons_succ, Option.getD_some, List.getElem?_cons_zero, List.getElem?_cons_succ]; done) | (simp only [rst, List.set_cons_zero, List.set_cons_succ, Option.getD_some, List.getElem?_cons_zero, List.getElem?_cons_succ]; rfl)))
    · trivial
    · exact small hx
    · intro x hxx K2 hK2
      obtain ⟨h0, h1⟩ := hin x hxx
      o_norm
      refine s_ixT rfl (ptsAtI h0 h1) ?_
      o_attr
      refine ⟨p, _, v, hp.2 _ hpp, hp.2 _ (getD_memI h0 h1), rfl, fun ds' => ?_⟩
      o_attr
      refine s_br (fun h => ?_) (fun h => ?_)
      · rw [if_pos h] at hK2
        o_attr
        exact hK2
      · rw [if_neg (by rw [h]; exact Bool.false_ne_true)] at hK2
        o_attr
        exact hK2
    rw [fmap_if]
    o_norm
    · rw [List.length_map] at h
      rw [decide_eq_false (by omega), Bool.false_and] at he
      rw [he] at q
      exact q _
    · rw [List.length_map] at h
      rw [decide_eq_true (by omega), Bool.true_and] at he
      exact hK _ ⟨⟨_, _, rfl⟩, fun p h => hl p (List.mem_cons_of_mem _ h), he⟩ trivial
  · rintro st ⟨⟨d3, d4, rfl⟩, hl, he⟩
    rw [he] at q
    o_attr
    exact q _
/-! _law_whole -/
def S__law_whole : VSp := fun ds Q _ => ∃ i : Int, ds = [.fr (.int i)] ∧ ∀ ds', Q (.fr (.bool true)) ds'
theorem len__law_whole : ∀ ds Q E, S__law_whole ds Q E → ds.length = 1 := by rintro _ _ _ ⟨_, rfl, _⟩; rfl
abbrev N__law_whole : List Str := ["_law_found"]
def t__law_whole : DTS := (cRet (cFrz (cAndV (cFn (gIsD "int" PyData.isInt) (cCons (cVar 0) (cCons (cK (.cst (.ty "int"))) cNil))) (cNotV (cFn (gIsD "bool" PyData.isBool) (cCons (cVar 0) (cCons (cK (.cst (.ty "bool"))) cNil)))))))
theorem r__law_whole : ∀ ds Q0 E0, S__law_whole ds Q0 E0 → t__law_whole (dEnds Q0) (ds ++ List.replicate (N__law_whole.length - 1) .gone) := by
  rintro ds Q0 E0 ⟨i, rfl, q⟩
  simp only [N__law_whole, List.length_cons, List.length_nil, List.cons_append, List.nil_append, Nat.reduceAdd, Nat.reduceSub, Nat.zero_add, List.replicate_succ, List.replicate_zero]; unfold t__law_whole
  o_attr
  exact q _
/-! _law_wholes -/
def S__law_wholes : VSp := fun ds Q _ => ∃ l : List Int, l.length ≤ 1000 ∧ ds = [.fr (pt l)] ∧ ∀ ds', Q (.fr (.bool true)) ds'
theorem len__law_wholes : ∀ ds Q E, S__law_wholes ds Q E → ds.length = 1 := by rintro _ _ _ ⟨_, _, rfl, _⟩; rfl
abbrev N__law_wholes : List Str := ["_law_found", "_law_one"]
def t__law_wholes : DTS := (cRet (cFrz (cAndV (cFn (gIsD "tuple" DL.isTupD) (cCons (cVar 0) (cCons (cK (.cst (.ty "tuple"))) cNil))) (c2 (gIn true) (cK (.fr (.bool false))) (cLc [] [1] (cSeqI (cVar 0)) (gNm 1) cYes (cFrz (cCall [] S__law_whole (cCons (cVar 1) cNil))))))))
theorem r__law_wholes : ∀ ds Q0 E0, S__law_wholes ds Q0 E0 → t__law_wholes (dEnds Q0) (ds ++ List.replicate (N__law_wholes.length - 1) .gone) := by
  rintro ds Q0 E0 ⟨l, hl, rfl, q⟩
  simp only [N__law_wholes, List.length_cons, List.length_nil, List.cons_append, List.nil_append, Nat.reduceAdd, Nat.reduceSub, Nat.zero_add, List.replicate_succ, List.replicate_zero]; unfold t__law_wholes
  o_attr
  apply s_lcMap l .int (fun _ => some (PyData.bool true)) rfl; (· (first | (simp only [wipeD, List.set_cons_zero, List.set_cons_succ]; done) | (simp only [wipeD, List.set_cons_zero, List.set_cons_succ]; rfl))); (· (first | (simp only [rst, List.set_cons_zero, List.set_cons_succ, Option.getD_some, List.getElem?_cons_zero, List.getElem?_cons_succ]; done) | (simp only [rst, List.set_cons_zero, List.set_cons_succ, Option.getD_some, List.getElem?_cons_zero, List.getElem?_cons_succ]; rfl)))
  · trivial
  · exact small (k := 1000) hl
  · intro i hi K hK
    o_norm
    refine ⟨i, rfl, fun ds' => ?_⟩
    o_attr
    exact hK
  rw [fmap_some]
  o_attr
  refine s_ninL rfl rfl rfl (by rw [List.all_map]; exact List.all_eq_true.mpr fun _ _ => rfl) ?_
  rw [show ((l.map fun _ => PyData.bool true).any fun z => PyData.eqv z (.bool false)) = false by
    rw [List.any_map, List.any_eq_false]; intro x _; rw [show ((fun z => PyData.eqv z (.bool false)) ∘ fun _ => PyData.bool true) x = PyData.eqv (.bool true) (.bool false) from rfl, eqv_bool]; decide]
  o_attr
  exact q _
/-! _law_word -/
def S__law_word : VSp := fun ds Q _ => ∃ x : Str, x ∈ kinds ∧ ds = [.exn x] ∧ ∀ ds', Q (.fr (.str (kindWord x))) ds'
theorem len__law_word : ∀ ds Q E, S__law_word ds Q E → ds.length = 1 := by rintro _ _ _ ⟨_, _, rfl, _⟩; rfl
abbrev N__law_word : List Str := ["_law_caught", "_law_kinds", "_law_words"]
def t__law_word : DTS := (cSeq (cAsg (cFrz (cLst (cCons (cIsX ["NoMeasures", "NoPoint", "NoKin", "TooMany", "NoNumber", "NoCorners", "NoDeed", "NoWindow", "NoWeights", "NoOrder", "NoRow", "NoLot", "NoTable", "NoLoss", "NoLine", "NoText"] ["NoMeasures"] (cVar 0)) (cCons (cIsX ["NoMeasures", "NoPoint", "NoKin", "TooMany", "NoNumber", "NoCorners", "NoDeed", "NoWindow", "NoWeights", "NoOrder", "NoRow", "NoLot", "NoTable", "NoLoss", "NoLine", "NoText"] ["NoPoint"] (cVar 0)) (cCons (cIsX ["NoMeasures", "NoPoint", "NoKin", "TooMany", "NoNumber", "NoCorners", "NoDeed", "NoWindow", "NoWeights", "NoOrder", "NoRow", "NoLot", "NoTable", "NoLoss", "NoLine", "NoText"] ["NoKin"] (cVar 0)) cNil))))) (gNm 1)) (cSeq (cAsg (cFrz (c2 gAdd (cVar 1) (cLst (cCons (cIsX ["NoMeasures", "NoPoint", "NoKin", "TooMany", "NoNumber", "NoCorners", "NoDeed", "NoWindow", "NoWeights", "NoOrder", "NoRow", "NoLot", "NoTable", "NoLoss", "NoLine", "NoText"] ["TooMany"] (cVar 0)) (cCons (cIsX ["NoMeasures", "NoPoint", "NoKin", "TooMany", "NoNumber", "NoCorners", "NoDeed", "NoWindow", "NoWeights", "NoOrder", "NoRow", "NoLot", "NoTable", "NoLoss", "NoLine", "NoText"] ["NoNumber"] (cVar 0)) cNil))))) (gNm 1)) (cSeq (cAsg (cFrz (c2 gAdd (cVar 1) (cLst (cCons (cIsX ["NoMeasures", "NoPoint", "NoKin", "TooMany", "NoNumber", "NoCorners", "NoDeed", "NoWindow", "NoWeights", "NoOrder", "NoRow", "NoLot", "NoTable", "NoLoss", "NoLine", "NoText"] ["NoCorners"] (cVar 0)) (cCons (cIsX ["NoMeasures", "NoPoint", "NoKin", "TooMany", "NoNumber", "NoCorners", "NoDeed", "NoWindow", "NoWeights", "NoOrder", "NoRow", "NoLot", "NoTable", "NoLoss", "NoLine", "NoText"] ["NoDeed"] (cVar 0)) cNil))))) (gNm 1)) (cSeq (cAsg (cFrz (c2 gAdd (cVar 1) (cLst (cCons (cIsX ["NoMeasures", "NoPoint", "NoKin", "TooMany", "NoNumber", "NoCorners", "NoDeed", "NoWindow", "NoWeights", "NoOrder", "NoRow", "NoLot", "NoTable", "NoLoss", "NoLine", "NoText"] ["NoWindow"] (cVar 0)) (cCons (cIsX ["NoMeasures", "NoPoint", "NoKin", "TooMany", "NoNumber", "NoCorners", "NoDeed", "NoWindow", "NoWeights", "NoOrder", "NoRow", "NoLot", "NoTable", "NoLoss", "NoLine", "NoText"] ["NoWeights"] (cVar 0)) cNil))))) (gNm 1)) (cSeq (cAsg (cFrz (c2 gAdd (cVar 1) (cLst (cCons (cIsX ["NoMeasures", "NoPoint", "NoKin", "TooMany", "NoNumber", "NoCorners", "NoDeed", "NoWindow", "NoWeights", "NoOrder", "NoRow", "NoLot", "NoTable", "NoLoss", "NoLine", "NoText"] ["NoOrder"] (cVar 0)) (cCons (cIsX ["NoMeasures", "NoPoint", "NoKin", "TooMany", "NoNumber", "NoCorners", "NoDeed", "NoWindow", "NoWeights", "NoOrder", "NoRow", "NoLot", "NoTable", "NoLoss", "NoLine", "NoText"] ["NoRow"] (cVar 0)) cNil))))) (gNm 1)) (cSeq (cAsg (cFrz (c2 gAdd (cVar 1) (cLst (cCons (cIsX ["NoMeasures", "NoPoint", "NoKin", "TooMany", "NoNumber", "NoCorners", "NoDeed", "NoWindow", "NoWeights", "NoOrder", "NoRow", "NoLot", "NoTable", "NoLoss", "NoLine", "NoText"] ["NoLot"] (cVar 0)) (cCons (cIsX ["NoMeasures", "NoPoint", "NoKin", "TooMany", "NoNumber", "NoCorners", "NoDeed", "NoWindow", "NoWeights", "NoOrder", "NoRow", "NoLot", "NoTable", "NoLoss", "NoLine", "NoText"] ["NoTable"] (cVar 0)) cNil))))) (gNm 1)) (cSeq (cAsg (cFrz (c2 gAdd (cVar 1) (cLst (cCons (cIsX ["NoMeasures", "NoPoint", "NoKin", "TooMany", "NoNumber", "NoCorners", "NoDeed", "NoWindow", "NoWeights", "NoOrder", "NoRow", "NoLot", "NoTable", "NoLoss", "NoLine", "NoText"] ["NoLoss"] (cVar 0)) (cCons (cIsX ["NoMeasures", "NoPoint", "NoKin", "TooMany", "NoNumber", "NoCorners", "NoDeed", "NoWindow", "NoWeights", "NoOrder", "NoRow", "NoLot", "NoTable", "NoLoss", "NoLine", "NoText"] ["NoLine"] (cVar 0)) cNil))))) (gNm 1)) (cSeq (cAsg (cFrz (c2 gAdd (cVar 1) (cLst (cCons (cIsX ["NoMeasures", "NoPoint", "NoKin", "TooMany", "NoNumber", "NoCorners", "NoDeed", "NoWindow", "NoWeights", "NoOrder", "NoRow", "NoLot", "NoTable", "NoLoss", "NoLine", "NoText"] ["NoText"] (cVar 0)) cNil)))) (gNm 1)) (cSeq (cAsg (cFrz (cLst (cCons (cK (.fr (.str "measures"))) (cCons (cK (.fr (.str "point"))) (cCons (cK (.fr (.str "kin"))) (cCons (cK (.fr (.str "many"))) (cCons (cK (.fr (.str "number"))) (cCons (cK (.fr (.str "corners"))) (cCons (cK (.fr (.str "deed"))) (cCons (cK (.fr (.str "window"))) (cCons (cK (.fr (.str "weights"))) (cCons (cK (.fr (.str "order"))) (cCons (cK (.fr (.str "row"))) cNil))))))))))))) (gNm 2)) (cSeq (cAsg (cFrz (c2 gAdd (cVar 2) (cLst (cCons (cK (.fr (.str "lot"))) (cCons (cK (.fr (.str "table"))) (cCons (cK (.fr (.str "loss"))) (cCons (cK (.fr (.str "line"))) (cCons (cK (.fr (.str "text"))) cNil)))))))) (gNm 2)) (cSeq (cIfS (cOr (cTst (c2 (gEq true) (cCntB true (cVar 1)) (cK (.fr (.int 1))))) (cNot (cTst (cIsX ["NoMeasures", "NoPoint", "NoKin", "TooMany", "NoNumber", "NoCorners", "NoDeed", "NoWindow", "NoWeights", "NoOrder", "NoRow", "NoLot", "NoTable", "NoLoss", "NoLine", "NoText"] ["ValueError"] (cVar 0))))) (cRet (cK (.fr (.str "odd")))) cNext) (cRet (c2 gIx (cVar 2) (cIdxB true (cVar 1)))))))))))))))
theorem r__law_word : ∀ ds Q0 E0, S__law_word ds Q0 E0 → t__law_word (dEnds Q0) (ds ++ List.replicate (N__law_word.length - 1) .gone) := by
  rintro ds Q0 E0 ⟨x, hx, rfl, q⟩
  obtain ⟨i, hi, hb, hw, hv⟩ := kind_at hx
  simp only [N__law_word, List.length_cons, List.length_nil, List.cons_append, List.nil_append, Nat.reduceAdd, Nat.reduceSub, Nat.zero_add, List.replicate_succ, List.replicate_zero]; unfold t__law_word
  o_norm
  refine ⟨kinds.map fun c => ([c] : List Str).any (exSub x), rfl, ?_⟩
  rw [hb, bit_count hi]
  o_attr
  · refine ⟨kinds.map fun c => ([c] : List Str).any (exSub x), i, rfl, ?_, ?_, ?_⟩
    · rw [hb]; exact bit_at hi
    · rw [hb]; exact bit_ahead
    · refine s_ixL rfl (words_at hw) ?_
      o_attr
      exact q _
  · exact absurd rfl h
/-! _law_right -/
--I X43
def S__law_right : VSp := fun ds Q _ => ∃ (ps : List (List Int)) (v : Int), Pts ps ∧ (∀ p ∈ ps, p.length = 2) ∧ lossOk v = true ∧ ds = [.fr (.tuple [.int 2, xt (ps.map pt)]), .fr (.int v)] ∧ ∀ ds', Q (.fr (.bool true)) ds'
theorem len__law_right : ∀ ds Q E, S__law_right ds Q E → ds.length = 2 := by rintro _ _ _ ⟨_, _, _, _, _, rfl, _⟩; rfl
abbrev N__law_right : List Str := ["_law_book", "_law_loss_here", "_law_found", "_law_lot", "_law_witnesses", "_law_many"]
def t__law_right : DTS := (cSeq (cAsg (cFrz (cCall [] (nxS S_fewest) (cCons (cVar 0) (cCons (cVar 1) cNil)))) (gNm 2)) (cSeq (cIfS (cOr (cNot (cTst (cFn (gIsD "tuple" DL.isTupD) (cCons (cVar 2) (cCons (cK (.cst (.ty "tuple"))) cNil))))) (cTst (c2 (gEq true) (cFn (g1 gLen) (cCons (cVar 2) cNil)) (cK (.fr (.int 2)))))) (cRet (cK (.fr (.bool false)))) cNext) (cSeq (cAsg (cVar 2) (gTu 2 (gsCons (gNm 3) (gsCons (gNm 4) gsNil)))) (cSeq (cIfS (cOr (cNot (cTst (cCall [] S__law_wholes (cCons (cVar 3) cNil)))) (cOr (cNot (cTst (cCall [] S__law_wholes (cCons (cVar 4) cNil)))) (cTst (c2 (gEq true) (cFn (g1 gLen) (cCons (cVar 3) cNil)) (cFn (g1 gLen) (cCons (cVar 4) cNil)))))) (cRet (cK (.fr (.bool false)))) cNext) (cSeq (cAsg (cFn (g1 gLen) (cCons (c2 gIx (cVarP 0) (cK (.fr (.int 1)))) cNil)) (gNm 5)) (cSeq (cIfS (cOr (cNot (cTst (cCall [] S__law_rising (cCons (cVar 3) (cCons (cVar 5) cNil))))) (cNot (cTst (cCall [] S__law_rising (cCons (cVar 4) (cCons (cVar 5) cNil)))))) (cRet (cK (.fr (.bool false)))) cNext) (cSeq (cIfS (cNot (cTst (cCall [] S__law_covers (cCons (c2 gIx (cVarP 0) (cK (.fr (.int 1)))) (cCons (cVar 1) (cCons (cVar 3) cNil)))))) (cRet (cK (.fr (.bool false)))) cNext) (cRet (cFrz (cAndV (cCall [] S__law_parts (cCons (c2 gIx (cVarP 0) (cK (.fr (.int 1)))) (cCons (cVar 1) (cCons (cVar 4) cNil)))) (c2 (gEq false) (cCall [] (nxS S_fewest) (cCons (cVar 0) (cCons (cVar 1) cNil))) (cVar 2))))))))))))
theorem r__law_right : ∀ ds Q0 E0, S__law_right ds Q0 E0 → t__law_right (dEnds Q0) (ds ++ List.replicate (N__law_right.length - 2) .gone) := by
  rintro ds Q0 E0 ⟨ps, v, hp, h2, hv, rfl, q⟩
  have hv0 := lossOk_ge hv
  have hpl : (List.map pt ps).length = ps.length := List.length_map _
  have hp1 := hp.1
  have g1 := few_len h2 hv0
  obtain ⟨g2, g3⟩ := few_rise h2 hv0
  have g4 := few_cov h2 hv0
  have g5 := few_parts h2 hv0
  have g6 := few_size h2 hv0
  obtain ⟨L, eL⟩ : ∃ L, lotF ps v = L := ⟨_, rfl⟩
  obtain ⟨W, eW⟩ : ∃ W, witF ps v = W := ⟨_, rfl⟩
  rw [eL] at g1 g2 g4 g6
  rw [eW] at g1 g3 g5
  have hL : (L.map PyData.int).length = L.length := List.length_map _
  have hW : (W.map PyData.int).length = W.length := List.length_map _
  simp only [N__law_right, List.length_cons, List.length_nil, List.cons_append, List.nil_append, Nat.reduceAdd, Nat.reduceSub, Nat.zero_add, List.replicate_succ, List.replicate_zero]; unfold t__law_right
  o_attr
  refine ⟨2, ps, v, hp, rfl, fun _ _ => ⟨h2, fun ds' => ?_⟩, fun h => absurd rfl h, fun _ h => by rw [hv] at h; cases h⟩
  rw [eL, eW]
  o_attr
  all_goals first | exact absurd rfl h | skip
  o_norm
  refine ⟨L, by omega, rfl, fun ds' => ?_⟩
  o_attr
  refine ⟨W, by omega, rfl, fun ds' => ?_⟩
  o_attr
  all_goals first | (exfalso; omega) | skip
  o_norm
  rw [hpl]
  o_norm
  refine ⟨L, _, by omega, rfl, fun ds' => ?_⟩
  rw [g2]
  o_attr
  refine ⟨W, _, by omega, rfl, fun ds' => ?_⟩
  rw [g3]
  o_attr
  refine ⟨ps, v, L, hp, by omega, rises_in g2, rfl, fun ds' => ?_⟩
  rw [g4]
  o_attr
  refine ⟨ps, v, W, hp, by omega, rises_in g3, rfl, fun ds' => ?_⟩
  rw [g5]
  o_attr
  refine ⟨2, ps, v, hp, rfl, fun _ _ => ⟨h2, fun ds' => ?_⟩, fun h => absurd rfl h, fun _ h => by rw [hv] at h; cases h⟩
  rw [eL, eW]
  o_attr
  refine s_eq rfl rfl (dep_pts60 [L, W]) (dep_pts60 [L, W]) ?_
  rw [show PyData.eqv (.tuple [pt L, pt W]) (.tuple [pt L, pt W]) = true from (eqv_pts [L, W] [L, W]).trans (decide_eq_true rfl)]
  o_attr
  exact q _
  all_goals exact absurd rfl h
/-! _law_refused -/
--I X43
def S__law_refused : VSp := fun ds Q _ => ∃ (m : Int) (ps : List (List Int)) (v : Int), Pts ps ∧ (m ≠ 2 ∨ lossOk v = false) ∧ ds = [.fr (.tuple [.int m, xt (ps.map pt)]), .fr (.int v)] ∧ (m ≠ 2 → ∀ ds', Q (.fr (.str "measures")) ds') ∧ (m = 2 → ∀ ds', Q (.fr (.str "loss")) ds')
theorem len__law_refused : ∀ ds Q E, S__law_refused ds Q E → ds.length = 2 := by rintro _ _ _ ⟨_, _, _, _, _, rfl, _⟩; rfl
abbrev N__law_refused : List Str := ["_law_book", "_law_loss_here", "_law_caught", "e"]
def t__law_refused : DTS := (cSeq (cAsg (cK (.fr .none)) (gNm 2)) (cSeq (cTry 3 ["NoLoss", "NoMeasures"] (fun EX1 => (cDrop (cCallX [] S_fewest EX1 (cCons (cVar 0) (cCons (cVar 1) cNil))))) (cAsg (cVar 3) (gNm 2))) (cRet (cFrz (cCall [] S__law_word (cCons (cVar 2) cNil))))))
theorem r__law_refused : ∀ ds Q0 E0, S__law_refused ds Q0 E0 → t__law_refused (dEnds Q0) (ds ++ List.replicate (N__law_refused.length - 2) .gone) := by
  rintro ds Q0 E0 ⟨m, ps, v, hp, hmv, rfl, q1, q2⟩
  simp only [N__law_refused, List.length_cons, List.length_nil, List.cons_append, List.nil_append, Nat.reduceAdd, Nat.reduceSub, Nat.zero_add, List.replicate_succ, List.replicate_zero]; unfold t__law_refused
  o_norm
  refine ⟨m, ps, v, hp, rfl, fun h1 h2 => ?_, fun h ds' => ?_, fun h hv ds' => ?_⟩
  · rcases hmv with z | z
    · exact absurd h1 z
    · rw [h2] at z; cases z
  · o_norm
    refine ⟨"NoMeasures", by decide, rfl, fun ds' => ?_⟩
    o_attr
    exact q1 h _
  · o_norm
    refine ⟨"NoLoss", by decide, rfl, fun ds' => ?_⟩
    o_attr
    exact q2 h _
/-! law -/
--I X43
abbrev S_law : VSp := lawS 63
abbrev N_law : List Str := ["_law_script", "_law_k", "_law_deck_here", "_law_book", "_law_loss_here", "_law_bad", "_law_measures", "_law_other"]
def t_law : DTS := (cSeq (cFor [] (cRng1 (cCons (cK (.fr (.int 5))) cNil)) (gNm 1) (cSeq (cAsg (cCall [] S__law_deck (cCons (cFrz (cSlk (cVar 0) (cPt (cVar 1)) (cPt (cK (.fr (.int 63)))))) (cCons (cVar 1) cNil))) (gNm 2)) (cSeq (cAsg (cTup (cCons (cK (.fr (.int 2))) (cCons (cFrz (cCall [0] S__law_points (cCons (cVar 2) (cCons (cK (.fr (.int 2))) (cCons (cK (.fr (.int 24))) cNil))))) cNil))) (gNm 3)) (cSeq (cAsg (cFrz (cCall [0] S__law_loss (cCons (cVar 2) (cCons (c2 gIx (cVarP 3) (cK (.fr (.int 1)))) cNil)))) (gNm 4)) (cSeq (cIfS (cNot (cTst (cCall [] S__law_right (cCons (cVar 3) (cCons (cVar 4) cNil))))) (cRet (cK (.fr (.bool false)))) cNext) (cSeq (cAsg (cFrz (cCall [0] S__law_no_loss (cCons (cVar 2) cNil))) (gNm 5)) (cSeq (cAsg (c2 gIx (cLst (cCons (cK (.fr (.int 1))) (cCons (cK (.fr (.int 3))) (cCons (cK (.fr (.int 4))) cNil)))) (cCall [0] S__law_next (cCons (cVar 2) (cCons (cK (.fr (.int 3))) cNil)))) (gNm 6)) (cSeq (cAsg (cTup (cCons (cVar 6) (cCons (cFrz (cCall [0] S__law_points (cCons (cVar 2) (cCons (cVar 6) (cCons (cK (.fr (.int 6))) cNil))))) cNil))) (gNm 7)) (cSeq (cIfS (cOr (cTst (c2 (gEq true) (cCall [] S__law_refused (cCons (cVar 3) (cCons (cVar 5) cNil))) (cK (.fr (.str "loss"))))) (cTst (c2 (gEq true) (cCall [] S__law_refused (cCons (cVar 7) (cCons (cVar 5) cNil))) (cK (.fr (.str "measures")))))) (cRet (cK (.fr (.bool false)))) cNext) (cIfS (cTst (c2 (gEq true) (cCall [] S__law_refused (cCons (cVar 7) (cCons (cVar 4) cNil))) (cK (.fr (.str "measures"))))) (cRet (cK (.fr (.bool false)))) cNext)))))))))) (cRet (cK (.fr (.bool true)))))
theorem r_law : ∀ ds Q0 E0, S_law ds Q0 E0 → t_law (dEnds Q0) (ds ++ List.replicate (N_law.length - 1) .gone) := by
  rintro ds Q0 E0 ⟨ns, hn, rfl, q⟩
  simp only [N_law, List.length_cons, List.length_nil, List.cons_append, List.nil_append, Nat.reduceAdd, Nat.reduceSub, Nat.zero_add, List.replicate_succ, List.replicate_zero]; unfold t_law
  o_attr
  refine s_rng1K (by decide) (by decide) ?_
  o_attr
  refine s_forMap (List.range 5) (fun (i : Nat) => .int (i : Int)) (fun l' st => (∀ i ∈ l', i < 5) ∧ ∃ d1 d2 d3 d4 d5 d6 d7, st = [.scr ns, d1, d2, d3, d4, d5, d6, d7]) (rngN 5) trivial ⟨fun i hi => List.mem_range.mp hi, _, _, _, _, _, _, _, rfl⟩ ?_ ?_
  · rintro i l' st ⟨hi, d1, d2, d3, d4, d5, d6, d7, rfl⟩ K hK
    have hi6 := hi i List.mem_cons_self
    o_norm
    refine ⟨ns, rfl, fun cells _ hl => ?_⟩
    o_attr
    refine ⟨cells, i, by omega, by omega, by omega, rfl, fun l ds' hP => ?_⟩
    o_norm
    refine ⟨_, _, 2, 24, hP, by omega, by decide, by decide, by decide, by decide, rfl, fun l ps ds1 hP hps hpm h1 => ?_⟩
    ((with_reducible apply s_up); (· (first | (simp only [upds, List.set_cons_zero, List.set_cons_succ, Option.getD_some, h1]; done) | (simp only [upds, List.set_cons_zero, List.set_cons_succ, Option.getD_some, h1]; rfl))))
    o_norm
    have hPts : Pts ps := ⟨by omega, fun p h => by rw [hpm p h]; omega⟩
    refine ⟨_, _, 2, ps, hP, by omega, by decide, by decide, by omega, hpm, rfl, fun l v ds1 hP h1 hv => ?_⟩
    ((with_reducible apply s_up); (· (first | (simp only [upds, List.set_cons_zero, List.set_cons_succ, Option.getD_some, h1]; done) | (simp only [upds, List.set_cons_zero, List.set_cons_succ, Option.getD_some, h1]; rfl))))
    o_norm
    refine ⟨ps, v, hPts, hpm, hv, rfl, fun ds' => ?_⟩
    o_norm
    refine ⟨_, _, hP, by omega, rfl, fun l x ds1 hP h1 hx => ?_⟩
    ((with_reducible apply s_up); (· (first | (simp only [upds, List.set_cons_zero, List.set_cons_succ, Option.getD_some, h1]; done) | (simp only [upds, List.set_cons_zero, List.set_cons_succ, Option.getD_some, h1]; rfl))))
    o_norm
    refine ⟨_, _, _, hP, by omega, by omega, by omega, rfl, fun l w ds1 hP h0w h1w e1 => ?_⟩; ((with_reducible apply s_up); (· (first | (simp only [upds, List.set_cons_zero, List.set_cons_succ, Option.getD_some, e1]; done) | (simp only [upds, List.set_cons_zero, List.set_cons_succ, Option.getD_some, e1]; rfl)))); o_attr
    refine s_ixI (f := fun z => z = 1 ∨ z = 3 ∨ z = 4) rfl (atI_in [1, 3, 4] rfl (by omega) (by simp only [List.length_cons, List.length_nil]; omega) (by simp)) fun z hz => ?_
    obtain ⟨m, rfl⟩ : ∃ m : Nat, z = (m : Int) := ⟨z.toNat, by omega⟩
    o_norm
    refine ⟨_, _, m, 6, hP, by omega, by omega, by omega, by decide, by decide, rfl, fun l qs ds1 hP hqs hqm h1 => ?_⟩
    ((with_reducible apply s_up); (· (first | (simp only [upds, List.set_cons_zero, List.set_cons_succ, Option.getD_some, h1]; done) | (simp only [upds, List.set_cons_zero, List.set_cons_succ, Option.getD_some, h1]; rfl))))
    o_norm
    have hQts : Pts qs := ⟨by omega, fun p h => by rw [hqm p h]; omega⟩
    refine ⟨2, ps, x, hPts, .inr hx, rfl, fun h => absurd rfl h, fun _ ds' => ?_⟩
    o_attr
    all_goals first | exact absurd rfl ‹¬ _› | skip
    refine ⟨m, qs, x, hQts, .inl (by omega), rfl, fun _ ds' => ?_, fun h => by omega⟩
    o_attr
    all_goals first | exact absurd rfl ‹¬ _› | skip
    refine ⟨m, qs, v, hQts, .inl (by omega), rfl, fun _ ds' => ?_, fun h => by omega⟩
    o_attr
    all_goals first | exact absurd rfl ‹¬ _› | skip
    exact hK _ ⟨fun i h => hi i (List.mem_cons_of_mem _ h), _, _, _, _, _, _, _, rfl⟩ trivial
  · rintro st ⟨_, d1, d2, d3, d4, d5, d6, d7, rfl⟩
    o_attr
    exact q _
-- is_whole: N = ['thing'], lk = []
theorem sc_is_whole : FnScope N_is_whole ["thing"] (defScope s_is_whole) := ⟨rfl, rfl, rfl, by decide +kernel, rfl, by decide +kernel, by decide +kernel⟩
theorem b_is_whole {P : Program} {w : World} {K : PySem.W.Frag} {mg : Str → Option Value} {base : Heap} {f : Addr} {cdv : Value} {A : Around} {outer : List Env} {s : Shared} {H : Hp} {E : XK} {B : Ba} {T : List (Addr × Str)} (m_isinstance : mg "isinstance" = none) (m_int : mg "int" = none) (m_bool : mg "bool" = none)
    (hr : Room 0 (A.deeper (envOfC "is_whole" (defScope s_is_whole) s.heap.objs.size f cdv))) (hgd : A.guards = some []) : DSs (cxOf CX0 P w K mg base N_is_whole "is_whole" (defScope s_is_whole) f cdv A outer s H E) (B.wT T) [] (defBody s_is_whole) t_is_whole :=
  have hu : A.units + 3 + 100 < cLine := un0 hr
  have hN := sc_is_whole.nd
  dss_nox (dss_one (ds_ret (de_frz (de_and (de_isD is_int rfl m_isinstance (da_cons (de_var 0) (da_cons (de_ty rfl m_int (by decide +kernel)) da_nil))) (de_one (de_not (de_isD is_bool rfl m_isinstance (da_cons (de_var 0) (da_cons (de_ty rfl m_bool (by decide +kernel)) da_nil)))))))))

-- is_within: N = ['thing', 'low', 'high'], lk = []
theorem sc_is_within : FnScope N_is_within ["thing", "low", "high"] (defScope s_is_within) := ⟨rfl, rfl, rfl, by decide +kernel, rfl, by decide +kernel, by decide +kernel⟩
theorem b_is_within {P : Program} {w : World} {K : PySem.W.Frag} {mg : Str → Option Value} {base : Heap} {f : Addr} {cdv : Value} {A : Around} {outer : List Env} {s : Shared} {H : Hp} {E : XK} {B : Ba} {T : List (Addr × Str)} (d_is_whole : Def T P w K mg base CX0 1 "is_whole" [] 1 S_is_whole)
    (hr : Room 1 (A.deeper (envOfC "is_within" (defScope s_is_within) s.heap.objs.size f cdv))) (hgd : A.guards = some []) : DSs (cxOf CX0 P w K mg base N_is_within "is_within" (defScope s_is_within) f cdv A outer s H E) (B.wT T) [] (defBody s_is_within) t_is_within :=
  have hu : A.units + 3 + 100 < cLine := un0 hr
  have hN := sc_is_within.nd
  dss_nox (dss_one (ds_ret (de_frz (de_and (de_call d_is_whole len_is_whole hr hgd (by decide) rfl (da_cons (de_var 0) da_nil)) (de_one (de_ch (p := kleb) (q := kleb) op_le op_le (de_var 1) (de_var 0) (de_var 2)))))))

-- is_over: N = ['one', 'other', 'here', 'there'], lk = []
theorem sc_is_over : FnScope N_is_over ["one", "other"] (defScope s_is_over) := ⟨rfl, rfl, rfl, by decide +kernel, rfl, by decide +kernel, by decide +kernel⟩
theorem b_is_over {P : Program} {w : World} {K : PySem.W.Frag} {mg : Str → Option Value} {base : Heap} {f : Addr} {cdv : Value} {A : Around} {outer : List Env} {s : Shared} {H : Hp} {E : XK} {B : Ba} {T : List (Addr × Str)} (m_all : mg "all" = none) (m_zip : mg "zip" = none)
    (hr : Room 0 (A.deeper (envOfC "is_over" (defScope s_is_over) s.heap.objs.size f cdv))) (hgd : A.guards = some []) : DSs (cxOf CX0 P w K mg base N_is_over "is_over" (defScope s_is_over) f cdv A outer s H E) (B.wT T) [] (defBody s_is_over) t_is_over :=
  have hu : A.units + 3 + 100 < cLine := un0 hr
  have hN := sc_is_over.nd
  dss_nox (dss_one (ds_ret (de_all rfl rfl m_all (da_cons (de_lc [] rfl hN (di_zip2 rfl m_zip (da_cons (de_var 0) (da_cons (de_var 1) da_nil))) (own := [("here", 2), ("there", 3)]) (blk_ok (by kernel_rfl)) rfl rfl (fun _ _ _ _ _ => (dg_tup rfl (dgs_cons (dg_name 2 hN rfl rfl (by first | exact .inl rfl | exact .inr rfl)) (dgs_cons (dg_name 3 hN rfl rfl (by first | exact .inl rfl | exact .inr rfl)) dgs_nil)))) (fun _ _ _ _ _ => dts_nil) (fun _ _ _ _ _ => (de_ge (de_var 2) (de_var 3)))) da_nil))))

-- does_beat: N = ['one', 'other'], lk = []
theorem sc_does_beat : FnScope N_does_beat ["one", "other"] (defScope s_does_beat) := ⟨rfl, rfl, rfl, by decide +kernel, rfl, by decide +kernel, by decide +kernel⟩
theorem b_does_beat {P : Program} {w : World} {K : PySem.W.Frag} {mg : Str → Option Value} {base : Heap} {f : Addr} {cdv : Value} {A : Around} {outer : List Env} {s : Shared} {H : Hp} {E : XK} {B : Ba} {T : List (Addr × Str)} (d_is_over : Def T P w K mg base CX0 1 "is_over" [] 2 S_is_over)
    (hr : Room 1 (A.deeper (envOfC "does_beat" (defScope s_does_beat) s.heap.objs.size f cdv))) (hgd : A.guards = some []) : DSs (cxOf CX0 P w K mg base N_does_beat "does_beat" (defScope s_does_beat) f cdv A outer s H E) (B.wT T) [] (defBody s_does_beat) t_does_beat :=
  have hu : A.units + 3 + 100 < cLine := un0 hr
  have hN := sc_does_beat.nd
  dss_nox (dss_one (ds_ret (de_frz (de_and (de_ne hu (de_var 0) (de_var 1)) (de_one (de_call d_is_over len_is_over hr hgd (by decide) rfl (da_cons (de_var 0) (da_cons (de_var 1) da_nil))))))))

-- is_unbeaten: N = ['points', 'number', 'point'], lk = []
theorem sc_is_unbeaten : FnScope N_is_unbeaten ["points", "number"] (defScope s_is_unbeaten) := ⟨rfl, rfl, rfl, by decide +kernel, rfl, by decide +kernel, by decide +kernel⟩
theorem b_is_unbeaten {P : Program} {w : World} {K : PySem.W.Frag} {mg : Str → Option Value} {base : Heap} {f : Addr} {cdv : Value} {A : Around} {outer : List Env} {s : Shared} {H : Hp} {E : XK} {B : Ba} {T : List (Addr × Str)} (m_any : mg "any" = none) (d_does_beat : Def T P w K mg base CX0 2 "does_beat" [] 2 S_does_beat)
    (hr : Room 2 (A.deeper (envOfC "is_unbeaten" (defScope s_is_unbeaten) s.heap.objs.size f cdv))) (hgd : A.guards = some []) : DSs (cxOf CX0 P w K mg base N_is_unbeaten "is_unbeaten" (defScope s_is_unbeaten) f cdv A outer s H E) (B.wT T) [] (defBody s_is_unbeaten) t_is_unbeaten :=
  have hu : A.units + 3 + 100 < cLine := un0 hr
  have hN := sc_is_unbeaten.nd
  dss_nox (dss_one (ds_ret (de_not (de_any rfl rfl m_any (da_cons (de_lc [] rfl hN (di_seq (de_var 0)) (own := [("point", 2)]) (blk_ok (by kernel_rfl)) rfl rfl (fun _ _ _ _ _ => (dg_name 2 hN rfl rfl (by first | exact .inl rfl | exact .inr rfl))) (fun _ _ _ _ _ => dts_nil) (fun _ _ _ _ _ => (de_frz (de_call d_does_beat len_does_beat hr hgd (by decide) rfl (da_cons (de_var 2) (da_cons (de_sub' (de_var 0) (de_var 1)) da_nil)))))) da_nil)))))

-- need_loss: N = ['loss'], lk = []
theorem sc_need_loss : FnScope N_need_loss ["loss"] (defScope s_need_loss) := ⟨rfl, rfl, rfl, by decide +kernel, rfl, by decide +kernel, by decide +kernel⟩
theorem b_need_loss {P : Program} {w : World} {K : PySem.W.Frag} {mg : Str → Option Value} {base : Heap} {f : Addr} {cdv : Value} {A : Around} {outer : List Env} {s : Shared} {H : Hp} {E : XK} {B : Ba} {T : List (Addr × Str)} (d_is_within : Def T P w K mg base CX0 2 "is_within" [] 3 S_is_within) (c_MOST_LOSS : ∃ t, mg "MOST_LOSS" = some (.int 2000000000 t)) (x_NoLoss : ExcG K mg "NoLoss")
    (hr : Room 2 (A.deeper (envOfC "need_loss" (defScope s_need_loss) s.heap.objs.size f cdv))) (hgd : A.guards = some []) {EX : Xn → List Vl → Prop} (tk : Takes (cxOf (L2.CX P w) P w K mg base N_need_loss "need_loss" (defScope s_need_loss) f cdv A outer s H E) (WD K mg (B.wT T) EX)) (hp : PassesOwn (model P w) (cxOf (L2.CX P w) P w K mg base N_need_loss "need_loss" (defScope s_need_loss) f cdv A outer s H E).A (cxOf (L2.CX P w) P w K mg base N_need_loss "need_loss" (defScope s_need_loss) f cdv A outer s H E).env (cxOf (L2.CX P w) P w K mg base N_need_loss "need_loss" (defScope s_need_loss) f cdv A outer s H E).xe) : DSs (cxOf (L2.CX P w) P w K mg base N_need_loss "need_loss" (defScope s_need_loss) f cdv A outer s H E) (B.wT T) [] (defBody s_need_loss) (t_need_loss EX) :=
  have hu : A.units + 3 + 100 < cLine := un0 hr
  have hN := sc_need_loss.nd
  (dss_one (ds_if (dc_not (dc_val (de_call d_is_within len_is_within hr hgd (by decide) rfl (da_cons (de_var 0) (da_cons de_int (da_cons (Exists.elim c_MOST_LOSS fun _ e => de_globI rfl e ⟨_, rfl⟩) da_nil)))))) (dss_one (ds_raise x_NoLoss rfl tk rfl)) dss_nil))

-- need_two: N = ['book'], lk = []
theorem sc_need_two : FnScope N_need_two ["book"] (defScope s_need_two) := ⟨rfl, rfl, rfl, by decide +kernel, rfl, by decide +kernel, by decide +kernel⟩
theorem b_need_two {P : Program} {w : World} {K : PySem.W.Frag} {mg : Str → Option Value} {base : Heap} {f : Addr} {cdv : Value} {A : Around} {outer : List Env} {s : Shared} {H : Hp} {E : XK} {B : Ba} {T : List (Addr × Str)} (x_NoMeasures : ExcG K mg "NoMeasures")
    (hr : Room 0 (A.deeper (envOfC "need_two" (defScope s_need_two) s.heap.objs.size f cdv))) (hgd : A.guards = some []) {EX : Xn → List Vl → Prop} (tk : Takes (cxOf (L2.CX P w) P w K mg base N_need_two "need_two" (defScope s_need_two) f cdv A outer s H E) (WD K mg (B.wT T) EX)) (hp : PassesOwn (model P w) (cxOf (L2.CX P w) P w K mg base N_need_two "need_two" (defScope s_need_two) f cdv A outer s H E).A (cxOf (L2.CX P w) P w K mg base N_need_two "need_two" (defScope s_need_two) f cdv A outer s H E).env (cxOf (L2.CX P w) P w K mg base N_need_two "need_two" (defScope s_need_two) f cdv A outer s H E).xe) : DSs (cxOf (L2.CX P w) P w K mg base N_need_two "need_two" (defScope s_need_two) f cdv A outer s H E) (B.wT T) [] (defBody s_need_two) (t_need_two EX) :=
  have hu : A.units + 3 + 100 < cLine := un0 hr
  have hN := sc_need_two.nd
  (dss_one (ds_if (dc_ne hu (de_sub' (de_var 0) de_int) de_int) (dss_one (ds_raise x_NoMeasures rfl tk rfl)) dss_nil))

-- does_stand: N = ['one', 'other', 'loss', 'here', 'there'], lk = []
theorem sc_does_stand : FnScope N_does_stand ["one", "other", "loss"] (defScope s_does_stand) := ⟨rfl, rfl, rfl, by decide +kernel, rfl, by decide +kernel, by decide +kernel⟩
theorem b_does_stand {P : Program} {w : World} {K : PySem.W.Frag} {mg : Str → Option Value} {base : Heap} {f : Addr} {cdv : Value} {A : Around} {outer : List Env} {s : Shared} {H : Hp} {E : XK} {B : Ba} {T : List (Addr × Str)} (m_all : mg "all" = none) (m_zip : mg "zip" = none)
    (hr : Room 0 (A.deeper (envOfC "does_stand" (defScope s_does_stand) s.heap.objs.size f cdv))) (hgd : A.guards = some []) : DSs (cxOf CX0 P w K mg base N_does_stand "does_stand" (defScope s_does_stand) f cdv A outer s H E) (B.wT T) [] (defBody s_does_stand) t_does_stand :=
  have hu : A.units + 3 + 100 < cLine := un0 hr
  have hN := sc_does_stand.nd
  dss_nox (dss_one (ds_ret (de_all rfl rfl m_all (da_cons (de_lc [] rfl hN (di_zip2 rfl m_zip (da_cons (de_var 0) (da_cons (de_var 1) da_nil))) (own := [("here", 3), ("there", 4)]) (blk_ok (by kernel_rfl)) rfl rfl (fun _ _ _ _ _ => (dg_tup rfl (dgs_cons (dg_name 3 hN rfl rfl (by first | exact .inl rfl | exact .inr rfl)) (dgs_cons (dg_name 4 hN rfl rfl (by first | exact .inl rfl | exact .inr rfl)) dgs_nil)))) (fun _ _ _ _ _ => dts_nil) (fun _ _ _ _ _ => (de_ge (de_add (de_var 3) (de_var 2)) (de_var 4)))) da_nil))))

-- stair_of: N = ['points', 'some', 'number'], lk = []
theorem sc_stair_of : FnScope N_stair_of ["points"] (defScope s_stair_of) := ⟨rfl, rfl, rfl, by decide +kernel, rfl, by decide +kernel, by decide +kernel⟩
theorem b_stair_of {P : Program} {w : World} {K : PySem.W.Frag} {mg : Str → Option Value} {base : Heap} {f : Addr} {cdv : Value} {A : Around} {outer : List Env} {s : Shared} {H : Hp} {E : XK} {B : Ba} {T : List (Addr × Str)} (m_range : mg "range" = none) (m_len : mg "len" = none) (d_is_unbeaten : Def T P w K mg base CX0 3 "is_unbeaten" [] 2 S_is_unbeaten) (m_sorted : mg "sorted" = none) (lam : LamC base mg T cdv ("stair_of" ++ ".<locals>." ++ "<lambda>"))
    (hr : Room 3 (A.deeper (envOfC "stair_of" (defScope s_stair_of) s.heap.objs.size f cdv))) (hgd : A.guards = some []) : DSs (cxOf CX0 P w K mg base N_stair_of "stair_of" (defScope s_stair_of) f cdv A outer s H E) (B.wT T) [] (defBody s_stair_of) t_stair_of :=
  have hu : A.units + 3 + 100 < cLine := un0 hr
  have hN := sc_stair_of.nd
  dss_nox (dss_cons (ds_setLc [] 1 (fun _ _ _ h => le_frz h) rfl hN rfl rfl rfl rfl (di_range1 rfl m_range (da_cons (de_len rfl m_len (da_cons (de_varP 0) da_nil)) da_nil)) (own := [("number", 2)]) (blk_ok (by kernel_rfl)) rfl rfl (fun _ _ _ _ _ => (dg_name 2 hN rfl rfl (by first | exact .inl rfl | exact .inr rfl))) (fun _ _ _ _ _ => (dts_one (dc_eq hu (de_ixE hu (de_var 0) (de_sub' (de_varP 0) (de_var 2))) (de_var 2)))) (fun _ _ _ _ _ => (de_var 2))) (dss_cons (ds_setLc [] 1 (fun _ _ _ h => le_frz h) rfl hN rfl rfl rfl rfl (di_seq (de_var 1)) (own := [("number", 2)]) (blk_ok (by kernel_rfl)) rfl rfl (fun _ _ _ _ _ => (dg_name 2 hN rfl rfl (by first | exact .inl rfl | exact .inr rfl))) (fun _ _ _ _ _ => (dts_one (dc_val (de_call d_is_unbeaten len_is_unbeaten hr hgd (by decide) rfl (da_cons (de_varP 0) (da_cons (de_var 2) da_nil)))))) (fun _ _ _ _ _ => (de_var 2))) (dss_one (ds_ret (de_frz (de_sortLam (a := "number") (fr := ["points"]) (js := [0]) (by exact lam) hr hgd rfl m_sorted (de_var 1) (NdefX.nscope_by (by decide +kernel)) (by kernel_rfl) rfl rfl (fun _ _ _ _ _ _ => rfl) (fun A s H f c B hr hgd => (de_sub' (de_sub' (de_varP 1) (de_var 0)) de_int))))))))

-- last_for: N = ['points', 'some', 'loss', 'number'], lk = []
theorem sc_last_for : FnScope N_last_for ["points", "some", "loss"] (defScope s_last_for) := ⟨rfl, rfl, rfl, by decide +kernel, rfl, by decide +kernel, by decide +kernel⟩
theorem b_last_for {P : Program} {w : World} {K : PySem.W.Frag} {mg : Str → Option Value} {base : Heap} {f : Addr} {cdv : Value} {A : Around} {outer : List Env} {s : Shared} {H : Hp} {E : XK} {B : Ba} {T : List (Addr × Str)} (d_does_stand : Def T P w K mg base CX0 1 "does_stand" [] 3 S_does_stand)
    (hr : Room 1 (A.deeper (envOfC "last_for" (defScope s_last_for) s.heap.objs.size f cdv))) (hgd : A.guards = some []) : DSs (cxOf CX0 P w K mg base N_last_for "last_for" (defScope s_last_for) f cdv A outer s H E) (B.wT T) [] (defBody s_last_for) t_last_for :=
  have hu : A.units + 3 + 100 < cLine := un0 hr
  have hN := sc_last_for.nd
  dss_nox (dss_one (ds_ret (de_sub' (de_lc [] rfl hN (di_seq (de_var 1)) (own := [("number", 3)]) (blk_ok (by kernel_rfl)) rfl rfl (fun _ _ _ _ _ => (dg_name 3 hN rfl rfl (by first | exact .inl rfl | exact .inr rfl))) (fun _ _ _ _ _ => (dts_one (dc_val (de_call d_does_stand len_does_stand hr hgd (by decide) rfl (da_cons (de_sub' (de_var 0) (de_var 3)) (da_cons (de_sub' (de_var 0) (de_sub' (de_var 1) de_int)) (da_cons (de_var 2) da_nil))))))) (fun _ _ _ _ _ => (de_var 3))) (de_neg de_int))))

-- gone_along: N = ['points', 'stair', 'loss', 'lot', 'witnesses', 'place', 'number'], lk = []
theorem sc_gone_along : FnScope N_gone_along ["points", "stair", "loss"] (defScope s_gone_along) := ⟨rfl, rfl, rfl, by decide +kernel, rfl, by decide +kernel, by decide +kernel⟩
theorem b_gone_along {P : Program} {w : World} {K : PySem.W.Frag} {mg : Str → Option Value} {base : Heap} {f : Addr} {cdv : Value} {A : Around} {outer : List Env} {s : Shared} {H : Hp} {E : XK} {B : Ba} {T : List (Addr × Str)} (m_enumerate : mg "enumerate" = none) (d_does_stand : Def T P w K mg base CX0 1 "does_stand" [] 3 S_does_stand) (d_last_for : Def T P w K mg base CX0 2 "last_for" [] 3 S_last_for) (m_tuple : mg "tuple" = none) (m_sorted : mg "sorted" = none)
    (hr : Room 2 (A.deeper (envOfC "gone_along" (defScope s_gone_along) s.heap.objs.size f cdv))) (hgd : A.guards = some []) : DSs (cxOf CX0 P w K mg base N_gone_along "gone_along" (defScope s_gone_along) f cdv A outer s H E) (B.wT T) [] (defBody s_gone_along) t_gone_along :=
  have hu : A.units + 3 + 100 < cLine := un0 hr
  have hN := sc_gone_along.nd
  dss_nox (dss_cons (ds_set 3 hN rfl rfl (by first | exact .inl rfl | exact .inr rfl) (de_lst da_nil)) (dss_cons (ds_set 4 hN rfl rfl (by first | exact .inl rfl | exact .inr rfl) (de_lst da_nil)) (dss_cons (ds_for [] .never rfl (di_enum rfl m_enumerate (da_cons (de_var 1) da_nil)) (dg_tup rfl (dgs_cons (dg_name 5 hN rfl rfl (by first | exact .inl rfl | exact .inr rfl)) (dgs_cons (dg_name 6 hN rfl rfl (by first | exact .inl rfl | exact .inr rfl)) dgs_nil))) (dss_one (ds_if (PW.pt (dw_or (dc_eq hu (de_var 3) (de_lst da_nil)) (dw_or1 (dc_not (dc_val (de_call d_does_stand len_does_stand hr hgd (by decide) rfl (da_cons (de_sub' (de_var 0) (de_sub' (de_var 3) (de_neg de_int))) (da_cons (de_sub' (de_var 0) (de_var 6)) (da_cons (de_var 2) da_nil))))))))) (dss_cons (ds_expr (de_append (de_var 4) (da_cons (de_var 6) da_nil))) (dss_one (ds_expr (de_append (de_var 3) (da_cons (de_frz (de_call d_last_for len_last_for hr hgd (by decide) rfl (da_cons (de_var 0) (da_cons (de_frz (de_slice (de_var 1) (do_at (de_var 5)) do_no)) (da_cons (de_var 2) da_nil))))) da_nil))))) dss_nil))) (dss_one (ds_ret (de_tup (da_cons (de_tuple rfl m_tuple (da_cons (de_sorted hu rfl m_sorted (da_cons (de_var 3) da_nil)) da_nil)) (da_cons (de_tuple rfl m_tuple (da_cons (de_sorted hu rfl m_sorted (da_cons (de_var 4) da_nil)) da_nil)) da_nil))))))))

-- fewest: N = ['book', 'loss'], lk = []
theorem sc_fewest : FnScope N_fewest ["book", "loss"] (defScope s_fewest) := ⟨rfl, rfl, rfl, by decide +kernel, rfl, by decide +kernel, by decide +kernel⟩
theorem b_fewest {P : Program} {w : World} {K : PySem.W.Frag} {mg : Str → Option Value} {base : Heap} {f : Addr} {cdv : Value} {A : Around} {outer : List Env} {s : Shared} {H : Hp} {E : XK} {B : Ba} {T : List (Addr × Str)} (e_need_two : Def T P w K mg base (L2.CX P w) 1 "need_two" [] 1 S_need_two) (e_need_loss : Def T P w K mg base (L2.CX P w) 3 "need_loss" [] 1 S_need_loss) (d_gone_along : Def T P w K mg base CX0 3 "gone_along" [] 3 S_gone_along) (d_stair_of : Def T P w K mg base CX0 4 "stair_of" [] 1 S_stair_of)
    (hr : Room 4 (A.deeper (envOfC "fewest" (defScope s_fewest) s.heap.objs.size f cdv))) (hgd : A.guards = some []) {EX : Xn → List Vl → Prop} (tk : Takes (cxOf (L2.CX P w) P w K mg base N_fewest "fewest" (defScope s_fewest) f cdv A outer s H E) (WD K mg (B.wT T) EX)) (hp : PassesOwn (model P w) (cxOf (L2.CX P w) P w K mg base N_fewest "fewest" (defScope s_fewest) f cdv A outer s H E).A (cxOf (L2.CX P w) P w K mg base N_fewest "fewest" (defScope s_fewest) f cdv A outer s H E).env (cxOf (L2.CX P w) P w K mg base N_fewest "fewest" (defScope s_fewest) f cdv A outer s H E).xe) : DSs (cxOf (L2.CX P w) P w K mg base N_fewest "fewest" (defScope s_fewest) f cdv A outer s H E) (B.wT T) [] (defBody s_fewest) (t_fewest EX) :=
  have hu : A.units + 3 + 100 < cLine := un0 hr
  have hN := sc_fewest.nd
  (dss_cons (ds_expr (de_callX e_need_two tk len_need_two hr hgd (by decide) rfl (da_cons (de_varP 0) da_nil))) (dss_cons (ds_expr (de_callX e_need_loss tk len_need_loss hr hgd (by decide) rfl (da_cons (de_var 1) da_nil))) (dss_one (ds_ret (de_frz (de_call d_gone_along len_gone_along hr hgd (by decide) rfl (da_cons (de_sub' (de_varP 0) de_int) (da_cons (de_frz (de_call d_stair_of len_stair_of hr hgd (by decide) rfl (da_cons (de_sub' (de_var 0) de_int) da_nil))) (da_cons (de_var 1) da_nil)))))))))

-- _law_mix: N = ['_law_cell', '_law_k', '_law_number'], lk = []
theorem sc__law_mix : FnScope N__law_mix ["_law_cell", "_law_k"] (defScope s__law_mix) := ⟨rfl, rfl, rfl, by decide +kernel, rfl, by decide +kernel, by decide +kernel⟩
theorem b__law_mix {P : Program} {w : World} {K : PySem.W.Frag} {mg : Str → Option Value} {base : Heap} {f : Addr} {cdv : Value} {A : Around} {outer : List Env} {s : Shared} {H : Hp} {E : XK} {B : Ba} {T : List (Addr × Str)} 
    (hr : Room 0 (A.deeper (envOfC "_law_mix" (defScope s__law_mix) s.heap.objs.size f cdv))) (hgd : A.guards = some []) : DSs (cxOf CX0 P w K mg base N__law_mix "_law_mix" (defScope s__law_mix) f cdv A outer s H E) (B.wT T) [] (defBody s__law_mix) t__law_mix :=
  have hu : A.units + 3 + 100 < cLine := un0 hr
  have hN := sc__law_mix.nd
  dss_nox (dss_cons (ds_set 2 hN rfl rfl (by first | exact .inl rfl | exact .inr rfl) (de_mod (de_add (de_add (de_add (de_mod (de_var 0) de_int) (de_mul (de_mul de_int (de_var 1)) (de_var 1))) (de_mul de_int (de_var 1))) de_int) de_int)) (dss_cons (ds_set 2 hN rfl rfl (by first | exact .inl rfl | exact .inr rfl) (de_mod (de_mul (de_var 2) (de_var 2)) de_int)) (dss_one (ds_ret (de_add (de_mul (de_fdiv (de_mod (de_mul (de_var 2) (de_add (de_var 2) de_int)) de_int) de_int) de_int) (de_fdiv (de_var 2) de_int))))))

-- _law_deck: N = ['_law_cells', '_law_salt'], lk = []
theorem sc__law_deck : FnScope N__law_deck ["_law_cells", "_law_salt"] (defScope s__law_deck) := ⟨rfl, rfl, rfl, by decide +kernel, rfl, by decide +kernel, by decide +kernel⟩
theorem b__law_deck {P : Program} {w : World} {K : PySem.W.Frag} {mg : Str → Option Value} {base : Heap} {f : Addr} {cdv : Value} {A : Around} {outer : List Env} {s : Shared} {H : Hp} {E : XK} {B : Ba} {T : List (Addr × Str)} (m_sum : mg "sum" = none)
    (hr : Room 0 (A.deeper (envOfC "_law_deck" (defScope s__law_deck) s.heap.objs.size f cdv))) (hgd : A.guards = some []) : DSs (cxOf CX0 P w K mg base N__law_deck "_law_deck" (defScope s__law_deck) f cdv A outer s H E) (B.wT T) [] (defBody s__law_deck) t__law_deck :=
  have hu : A.units + 3 + 100 < cLine := un0 hr
  have hN := sc__law_deck.nd
  dss_nox (dss_one (ds_ret (de_lst (da_cons (de_var 0) (da_cons de_int (da_cons de_int (da_cons de_int (da_cons (de_add (de_sumA rfl rfl m_sum (da_cons (de_var 0) da_nil)) (de_mul de_int (de_var 1))) da_nil))))))))

-- _law_next: N = ['_law_deck_here', '_law_many', '_law_cell', '_law_found'], lk = [0]
theorem sc__law_next : FnScope N__law_next ["_law_deck_here", "_law_many"] (defScope s__law_next) := ⟨rfl, rfl, rfl, by decide +kernel, rfl, by decide +kernel, by decide +kernel⟩
theorem b__law_next {P : Program} {w : World} {K : PySem.W.Frag} {mg : Str → Option Value} {base : Heap} {f : Addr} {cdv : Value} {A : Around} {outer : List Env} {s : Shared} {H : Hp} {E : XK} {B : Ba} {T : List (Addr × Str)} (m_len : mg "len" = none) (d__law_mix : Def T P w K mg base CX0 1 "_law_mix" [] 2 S__law_mix)
    (hr : Room 1 (A.deeper (envOfC "_law_next" (defScope s__law_next) s.heap.objs.size f cdv))) (hgd : A.guards = some []) : DSs (cxOf CX0 P w K mg base N__law_next "_law_next" (defScope s__law_next) f cdv A outer s H E) (B.wT T) [0] (defBody s__law_next) t__law_next :=
  have hu : A.units + 3 + 100 < cLine := un0 hr
  have hN := sc__law_next.nd
  dss_nox (dss_cons (ds_if (PW.pt (dw_and (dc_eq hu (de_sub' (de_var 0) de_int) de_int) (dw_and1 (dc_lt (de_sub' (de_var 0) de_int) (de_len rfl m_len (da_cons (de_sub' (de_var 0) de_int) da_nil)))))) (dss_cons (ds_set 2 hN rfl rfl (by first | exact .inl rfl | exact .inr rfl) (de_sub' (de_sub' (de_var 0) de_int) (de_sub' (de_var 0) de_int))) (dss_cons (ds_asg (de_add (de_sub' (de_var 0) de_int) de_int) (dg_sub (de_var 0) de_int)) (dss_cons (ds_if (dc_lt (de_var 2) (de_pow de_int de_int)) (dss_one (ds_ret (de_mod (de_call d__law_mix len__law_mix hr hgd (by decide) rfl (da_cons (de_var 2) (da_cons (de_sub' (de_var 0) de_int) da_nil))) (de_var 1)))) dss_nil) (dss_one (ds_asg (de_var 2) (dg_sub (de_var 0) de_int)))))) dss_nil) (dss_cons (ds_if (dc_gt (de_sub' (de_var 0) de_int) de_int) (dss_cons (ds_set 3 hN rfl rfl (by first | exact .inl rfl | exact .inr rfl) (de_mod (de_sub' (de_var 0) de_int) (de_var 1))) (dss_cons (ds_asg (de_fdiv (de_sub' (de_var 0) de_int) (de_var 1)) (dg_sub (de_var 0) de_int)) (dss_one (ds_ret (de_var 3))))) dss_nil) (dss_cons (ds_asg (de_add (de_sub' (de_var 0) de_int) de_int) (dg_sub (de_var 0) de_int)) (dss_one (ds_ret (de_mod (de_call d__law_mix len__law_mix hr hgd (by decide) rfl (da_cons (de_sub' (de_var 0) de_int) (da_cons (de_add (de_sub' (de_var 0) de_int) de_int) da_nil))) (de_var 1)))))))

-- _law_number: N = ['_law_deck_here', '_law_way'], lk = [0]
theorem sc__law_number : FnScope N__law_number ["_law_deck_here", "_law_way"] (defScope s__law_number) := ⟨rfl, rfl, rfl, by decide +kernel, rfl, by decide +kernel, by decide +kernel⟩
theorem b__law_number {P : Program} {w : World} {K : PySem.W.Frag} {mg : Str → Option Value} {base : Heap} {f : Addr} {cdv : Value} {A : Around} {outer : List Env} {s : Shared} {H : Hp} {E : XK} {B : Ba} {T : List (Addr × Str)} (d__law_next : Def T P w K mg base CX0 2 "_law_next" [0] 2 S__law_next)
    (hr : Room 2 (A.deeper (envOfC "_law_number" (defScope s__law_number) s.heap.objs.size f cdv))) (hgd : A.guards = some []) : DSs (cxOf CX0 P w K mg base N__law_number "_law_number" (defScope s__law_number) f cdv A outer s H E) (B.wT T) [0] (defBody s__law_number) t__law_number :=
  have hu : A.units + 3 + 100 < cLine := un0 hr
  have hN := sc__law_number.nd
  dss_nox (dss_cons (ds_if (dc_lt (de_var 1) de_int) (dss_one (ds_ret (de_sub (de_mul (de_call d__law_next len__law_next hr hgd (by decide) rfl (da_cons (de_var 0) (da_cons (de_sub' (de_lst (da_cons de_int (da_cons de_int (da_cons de_int (da_cons de_int da_nil))))) (de_var 1)) da_nil))) (de_sub' (de_lst (da_cons de_int (da_cons de_int (da_cons de_int (da_cons de_int da_nil))))) (de_var 1))) (de_sub' (de_lst (da_cons de_int (da_cons de_int (da_cons de_int (da_cons de_int da_nil))))) (de_var 1))))) dss_nil) (dss_cons (ds_if (dc_eq hu (de_var 1) de_int) (dss_one (ds_ret (de_sub (de_call d__law_next len__law_next hr hgd (by decide) rfl (da_cons (de_var 0) (da_cons (de_add (de_mul de_int (de_pow de_int de_int)) de_int) da_nil))) (de_pow de_int de_int)))) dss_nil) (dss_one (ds_ret (de_sub' (de_lst (da_cons (de_pow de_int de_int) (da_cons (de_sub de_int (de_pow de_int de_int)) (da_cons de_int (da_cons (de_sub (de_pow de_int de_int) de_int) da_nil))))) (de_call d__law_next len__law_next hr hgd (by decide) rfl (da_cons (de_var 0) (da_cons de_int da_nil))))))))

-- _law_points: N = ['_law_deck_here', '_law_measures', '_law_most', '_law_way', '_law_size', '_law_many', '_law_found', '_law_low', '_law_k', '_law_alike', '_law_point', '_law_one', '_law_m'], lk = [0]
theorem sc__law_points : FnScope N__law_points ["_law_deck_here", "_law_measures", "_law_most"] (defScope s__law_points) := ⟨rfl, rfl, rfl, by decide +kernel, rfl, by decide +kernel, by decide +kernel⟩
theorem b__law_points {P : Program} {w : World} {K : PySem.W.Frag} {mg : Str → Option Value} {base : Heap} {f : Addr} {cdv : Value} {A : Around} {outer : List Env} {s : Shared} {H : Hp} {E : XK} {B : Ba} {T : List (Addr × Str)} (d__law_next : Def T P w K mg base CX0 2 "_law_next" [0] 2 S__law_next) (m_range : mg "range" = none) (m_len : mg "len" = none) (m_tuple : mg "tuple" = none) (m_max : mg "max" = none) (d__law_number : Def T P w K mg base CX0 3 "_law_number" [0] 2 S__law_number)
    (hr : Room 3 (A.deeper (envOfC "_law_points" (defScope s__law_points) s.heap.objs.size f cdv))) (hgd : A.guards = some []) : DSs (cxOf CX0 P w K mg base N__law_points "_law_points" (defScope s__law_points) f cdv A outer s H E) (B.wT T) [0] (defBody s__law_points) t__law_points :=
  have hu : A.units + 3 + 100 < cLine := un0 hr
  have hN := sc__law_points.nd
  dss_nox (dss_cons (ds_set 3 hN rfl rfl (by first | exact .inl rfl | exact .inr rfl) (de_frz (de_call d__law_next len__law_next hr hgd (by decide) rfl (da_cons (de_var 0) (da_cons de_int da_nil))))) (dss_cons (ds_set 4 hN rfl rfl (by first | exact .inl rfl | exact .inr rfl) (de_frz (de_call d__law_next len__law_next hr hgd (by decide) rfl (da_cons (de_var 0) (da_cons de_int da_nil))))) (dss_cons (ds_set 5 hN rfl rfl (by first | exact .inl rfl | exact .inr rfl) (de_var 2)) (dss_cons (ds_if (dc_gt (de_var 4) de_int) (dss_one (ds_set 5 hN rfl rfl (by first | exact .inl rfl | exact .inr rfl) (de_frz (de_call d__law_next len__law_next hr hgd (by decide) rfl (da_cons (de_var 0) (da_cons (de_add (de_sub' (de_lst (da_cons (de_var 2) (da_cons de_int da_nil))) (de_sub (de_var 4) de_int)) de_int) da_nil)))))) dss_nil) (dss_cons (ds_set 6 hN rfl rfl (by first | exact .inl rfl | exact .inr rfl) (de_lst da_nil)) (dss_cons (ds_set 7 hN rfl rfl (by first | exact .inl rfl | exact .inr rfl) (de_sub' (de_lst (da_cons de_int (da_cons (de_sub de_int (de_pow de_int de_int)) da_nil))) (de_fdiv (de_var 3) de_int))) (dss_cons (ds_for [] .never rfl (di_range1 rfl m_range (da_cons (de_var 5) da_nil)) (dg_name 8 hN rfl rfl (by first | exact .inl rfl | exact .inr rfl)) (dss_cons (ds_set 9 hN rfl rfl (by first | exact .inl rfl | exact .inr rfl) (de_frz (de_call d__law_next len__law_next hr hgd (by decide) rfl (da_cons (de_var 0) (da_cons de_int da_nil))))) (dss_cons (ds_if (PW.pt (dw_and (dc_lt (de_var 9) de_int) (dw_and1 (dc_ne hu (de_var 6) (de_lst da_nil))))) (dss_cons (ds_set 10 hN rfl rfl (by first | exact .inl rfl | exact .inr rfl) (de_sub' (de_var 6) (de_call d__law_next len__law_next hr hgd (by decide) rfl (da_cons (de_var 0) (da_cons (de_len rfl m_len (da_cons (de_var 6) da_nil)) da_nil))))) (dss_one (ds_if (dc_eq hu (de_var 9) de_int) (dss_one (ds_set 10 hN rfl rfl (by first | exact .inl rfl | exact .inr rfl) (de_tuple rfl m_tuple (da_cons (de_lc [] rfl hN (di_seq (de_var 10)) (own := [("_law_one", 11)]) (blk_ok (by kernel_rfl)) rfl rfl (fun _ _ _ _ _ => (dg_name 11 hN rfl rfl (by first | exact .inl rfl | exact .inr rfl))) (fun _ _ _ _ _ => dts_nil) (fun _ _ _ _ _ => (de_max2 rfl rfl m_max (da_cons (de_sub de_int (de_pow de_int de_int)) (da_cons (de_sub (de_var 11) (de_call d__law_next len__law_next hr hgd (by decide) rfl (da_cons (de_var 0) (da_cons de_int da_nil)))) da_nil))))) da_nil)))) dss_nil))) (dss_one (ds_if (dc_lt (de_var 3) de_int) (dss_one (ds_set 10 hN rfl rfl (by first | exact .inl rfl | exact .inr rfl) (de_tuple rfl m_tuple (da_cons (de_lc [] rfl hN (di_range1 rfl m_range (da_cons (de_var 1) da_nil)) (own := [("_law_m", 12)]) (blk_ok (by kernel_rfl)) rfl rfl (fun _ _ _ _ _ => (dg_name 12 hN rfl rfl (by first | exact .inl rfl | exact .inr rfl))) (fun _ _ _ _ _ => dts_nil) (fun _ _ _ _ _ => (de_frz (de_call d__law_number len__law_number hr hgd (by decide) rfl (da_cons (de_var 0) (da_cons (de_var 3) da_nil)))))) da_nil)))) (dss_cons (ds_set 7 hN rfl rfl (by first | exact .inl rfl | exact .inr rfl) (de_frz (de_add (de_add (de_var 7) de_int) (de_call d__law_next len__law_next hr hgd (by decide) rfl (da_cons (de_var 0) (da_cons (de_sub' (de_lst (da_cons de_int (da_cons de_int da_nil))) (de_sub (de_var 3) de_int)) da_nil)))))) (dss_cons (ds_set 10 hN rfl rfl (by first | exact .inl rfl | exact .inr rfl) (de_tup (da_cons (de_var 7) (da_cons (de_sub (de_sub (de_sub' (de_lst (da_cons de_int (da_cons de_int da_nil))) (de_sub (de_var 3) de_int)) (de_var 7)) (de_call d__law_next len__law_next hr hgd (by decide) rfl (da_cons (de_var 0) (da_cons de_int da_nil)))) da_nil)))) (dss_one (ds_set 10 hN rfl rfl (by first | exact .inl rfl | exact .inr rfl) (de_frz (de_slice (de_add (de_var 10) (de_tup (da_cons (de_frz (de_call d__law_next len__law_next hr hgd (by decide) rfl (da_cons (de_var 0) (da_cons de_int da_nil)))) (da_cons (de_frz (de_call d__law_next len__law_next hr hgd (by decide) rfl (da_cons (de_var 0) (da_cons de_int da_nil)))) da_nil)))) do_no (do_at (de_var 1))))))))))) (dss_one (ds_expr (de_insert (de_var 6) (da_cons (de_frz (de_call d__law_next len__law_next hr hgd (by decide) rfl (da_cons (de_var 0) (da_cons (de_add (de_len rfl m_len (da_cons (de_var 6) da_nil)) de_int) da_nil)))) (da_cons (de_var 10) da_nil)))))))) (dss_one (ds_ret (de_tupleE rfl m_tuple (da_cons (de_var 6) da_nil)))))))))))

-- _law_loss: N = ['_law_deck_here', '_law_points_here', '_law_way', '_law_one', '_law_other', '_law_measure', '_law_far'], lk = [0]
theorem sc__law_loss : FnScope N__law_loss ["_law_deck_here", "_law_points_here"] (defScope s__law_loss) := ⟨rfl, rfl, rfl, by decide +kernel, rfl, by decide +kernel, by decide +kernel⟩
theorem b__law_loss {P : Program} {w : World} {K : PySem.W.Frag} {mg : Str → Option Value} {base : Heap} {f : Addr} {cdv : Value} {A : Around} {outer : List Env} {s : Shared} {H : Hp} {E : XK} {B : Ba} {T : List (Addr × Str)} (d__law_next : Def T P w K mg base CX0 2 "_law_next" [0] 2 S__law_next) (m_len : mg "len" = none) (m_abs : mg "abs" = none) (m_max : mg "max" = none) (m_min : mg "min" = none)
    (hr : Room 2 (A.deeper (envOfC "_law_loss" (defScope s__law_loss) s.heap.objs.size f cdv))) (hgd : A.guards = some []) : DSs (cxOf CX0 P w K mg base N__law_loss "_law_loss" (defScope s__law_loss) f cdv A outer s H E) (B.wT T) [0] (defBody s__law_loss) t__law_loss :=
  have hu : A.units + 3 + 100 < cLine := un0 hr
  have hN := sc__law_loss.nd
  dss_nox (dss_cons (ds_set 2 hN rfl rfl (by first | exact .inl rfl | exact .inr rfl) (de_frz (de_call d__law_next len__law_next hr hgd (by decide) rfl (da_cons (de_var 0) (da_cons de_int da_nil))))) (dss_cons (ds_if (dc_lt (de_var 2) de_int) (dss_one (ds_ret (de_frz (de_call d__law_next len__law_next hr hgd (by decide) rfl (da_cons (de_var 0) (da_cons (de_sub' (de_lst (da_cons de_int (da_cons de_int (da_cons (de_add (de_mul de_int (de_pow de_int de_int)) de_int) da_nil)))) (de_var 2)) da_nil)))))) dss_nil) (dss_cons (ds_if (PW.pt (dw_or (dc_eq hu (de_var 2) de_int) (dw_or1 (dc_eq hu (de_var 1) (de_tup da_nil))))) (dss_one (ds_ret (de_sub' (de_lst (da_cons de_int (da_cons (de_mul de_int (de_pow de_int de_int)) (da_cons de_int da_nil)))) (de_call d__law_next len__law_next hr hgd (by decide) rfl (da_cons (de_var 0) (da_cons de_int da_nil)))))) dss_nil) (dss_cons (ds_set 3 hN rfl rfl (by first | exact .inl rfl | exact .inr rfl) (de_sub' (de_var 1) (de_call d__law_next len__law_next hr hgd (by decide) rfl (da_cons (de_var 0) (da_cons (de_len rfl m_len (da_cons (de_var 1) da_nil)) da_nil))))) (dss_cons (ds_set 4 hN rfl rfl (by first | exact .inl rfl | exact .inr rfl) (de_sub' (de_var 1) (de_call d__law_next len__law_next hr hgd (by decide) rfl (da_cons (de_var 0) (da_cons (de_len rfl m_len (da_cons (de_var 1) da_nil)) da_nil))))) (dss_cons (ds_set 5 hN rfl rfl (by first | exact .inl rfl | exact .inr rfl) (de_frz (de_call d__law_next len__law_next hr hgd (by decide) rfl (da_cons (de_var 0) (da_cons (de_len rfl m_len (da_cons (de_var 3) da_nil)) da_nil))))) (dss_cons (ds_set 6 hN rfl rfl (by first | exact .inl rfl | exact .inr rfl) (de_abs rfl m_abs (da_cons (de_sub (de_sub' (de_var 3) (de_var 5)) (de_sub' (de_var 4) (de_var 5))) da_nil))) (dss_one (ds_ret (de_max2 rfl rfl m_max (da_cons de_int (da_cons (de_min2 rfl rfl m_min (da_cons (de_mul de_int (de_pow de_int de_int)) (da_cons (de_sub (de_add (de_var 6) (de_call d__law_next len__law_next hr hgd (by decide) rfl (da_cons (de_var 0) (da_cons de_int da_nil)))) de_int) da_nil))) da_nil))))))))))))

-- _law_no_loss: N = ['_law_deck_here', '_law_way', '_law_far'], lk = [0]
theorem sc__law_no_loss : FnScope N__law_no_loss ["_law_deck_here"] (defScope s__law_no_loss) := ⟨rfl, rfl, rfl, by decide +kernel, rfl, by decide +kernel, by decide +kernel⟩
theorem b__law_no_loss {P : Program} {w : World} {K : PySem.W.Frag} {mg : Str → Option Value} {base : Heap} {f : Addr} {cdv : Value} {A : Around} {outer : List Env} {s : Shared} {H : Hp} {E : XK} {B : Ba} {T : List (Addr × Str)} (d__law_next : Def T P w K mg base CX0 2 "_law_next" [0] 2 S__law_next)
    (hr : Room 2 (A.deeper (envOfC "_law_no_loss" (defScope s__law_no_loss) s.heap.objs.size f cdv))) (hgd : A.guards = some []) : DSs (cxOf CX0 P w K mg base N__law_no_loss "_law_no_loss" (defScope s__law_no_loss) f cdv A outer s H E) (B.wT T) [0] (defBody s__law_no_loss) t__law_no_loss :=
  have hu : A.units + 3 + 100 < cLine := un0 hr
  have hN := sc__law_no_loss.nd
  dss_nox (dss_cons (ds_set 1 hN rfl rfl (by first | exact .inl rfl | exact .inr rfl) (de_frz (de_call d__law_next len__law_next hr hgd (by decide) rfl (da_cons (de_var 0) (da_cons de_int da_nil))))) (dss_cons (ds_set 2 hN rfl rfl (by first | exact .inl rfl | exact .inr rfl) (de_frz (de_call d__law_next len__law_next hr hgd (by decide) rfl (da_cons (de_var 0) (da_cons (de_pow de_int de_int) da_nil))))) (dss_one (ds_ret (de_sub' (de_lst (da_cons (de_neg de_int) (da_cons (de_add (de_mul de_int (de_pow de_int de_int)) de_int) (da_cons (de_sub (de_sub de_int de_int) (de_var 2)) (da_cons (de_add (de_add (de_mul de_int (de_pow de_int de_int)) de_int) (de_var 2)) (da_cons (de_pow de_int de_int) da_nil)))))) (de_var 1))))))

-- _law_stands: N = ['_law_one', '_law_other', '_law_loss_here', '_law_here', '_law_there'], lk = []
theorem sc__law_stands : FnScope N__law_stands ["_law_one", "_law_other", "_law_loss_here"] (defScope s__law_stands) := ⟨rfl, rfl, rfl, by decide +kernel, rfl, by decide +kernel, by decide +kernel⟩
theorem b__law_stands {P : Program} {w : World} {K : PySem.W.Frag} {mg : Str → Option Value} {base : Heap} {f : Addr} {cdv : Value} {A : Around} {outer : List Env} {s : Shared} {H : Hp} {E : XK} {B : Ba} {T : List (Addr × Str)} (m_zip : mg "zip" = none)
    (hr : Room 0 (A.deeper (envOfC "_law_stands" (defScope s__law_stands) s.heap.objs.size f cdv))) (hgd : A.guards = some []) : DSs (cxOf CX0 P w K mg base N__law_stands "_law_stands" (defScope s__law_stands) f cdv A outer s H E) (B.wT T) [] (defBody s__law_stands) t__law_stands :=
  have hu : A.units + 3 + 100 < cLine := un0 hr
  have hN := sc__law_stands.nd
  dss_nox (dss_one (ds_ret (de_eq hu (de_lc [] rfl hN (di_zip2 rfl m_zip (da_cons (de_var 0) (da_cons (de_var 1) da_nil))) (own := [("_law_here", 3), ("_law_there", 4)]) (blk_ok (by kernel_rfl)) rfl rfl (fun _ _ _ _ _ => (dg_tup rfl (dgs_cons (dg_name 3 hN rfl rfl (by first | exact .inl rfl | exact .inr rfl)) (dgs_cons (dg_name 4 hN rfl rfl (by first | exact .inl rfl | exact .inr rfl)) dgs_nil)))) (fun _ _ _ _ _ => (dts_one (dc_lt (de_add (de_var 3) (de_var 2)) (de_var 4)))) (fun _ _ _ _ _ => de_int)) (de_lst da_nil))))

-- _law_covers: N = ['_law_points_here', '_law_loss_here', '_law_some', '_law_point', '_law_one'], lk = []
theorem sc__law_covers : FnScope N__law_covers ["_law_points_here", "_law_loss_here", "_law_some"] (defScope s__law_covers) := ⟨rfl, rfl, rfl, by decide +kernel, rfl, by decide +kernel, by decide +kernel⟩
theorem b__law_covers {P : Program} {w : World} {K : PySem.W.Frag} {mg : Str → Option Value} {base : Heap} {f : Addr} {cdv : Value} {A : Around} {outer : List Env} {s : Shared} {H : Hp} {E : XK} {B : Ba} {T : List (Addr × Str)} (d__law_stands : Def T P w K mg base CX0 1 "_law_stands" [] 3 S__law_stands)
    (hr : Room 1 (A.deeper (envOfC "_law_covers" (defScope s__law_covers) s.heap.objs.size f cdv))) (hgd : A.guards = some []) : DSs (cxOf CX0 P w K mg base N__law_covers "_law_covers" (defScope s__law_covers) f cdv A outer s H E) (B.wT T) [] (defBody s__law_covers) t__law_covers :=
  have hu : A.units + 3 + 100 < cLine := un0 hr
  have hN := sc__law_covers.nd
  dss_nox (dss_cons (ds_for [] .never rfl (di_seq (de_var 0)) (dg_name 3 hN rfl rfl (by first | exact .inl rfl | exact .inr rfl)) (dss_one (ds_if (dc_eq hu (de_lc [] rfl hN (di_seq (de_var 2)) (own := [("_law_one", 4)]) (blk_ok (by kernel_rfl)) rfl rfl (fun _ _ _ _ _ => (dg_name 4 hN rfl rfl (by first | exact .inl rfl | exact .inr rfl))) (fun _ _ _ _ _ => (dts_one (dc_val (de_call d__law_stands len__law_stands hr hgd (by decide) rfl (da_cons (de_sub' (de_var 0) (de_var 4)) (da_cons (de_var 3) (da_cons (de_var 1) da_nil))))))) (fun _ _ _ _ _ => de_int)) (de_lst da_nil)) (dss_one (ds_ret de_bl)) dss_nil))) (dss_one (ds_ret de_bl)))

-- _law_rising: N = ['_law_thing', '_law_many', '_law_place', '_law_one'], lk = []
theorem sc__law_rising : FnScope N__law_rising ["_law_thing", "_law_many"] (defScope s__law_rising) := ⟨rfl, rfl, rfl, by decide +kernel, rfl, by decide +kernel, by decide +kernel⟩
theorem b__law_rising {P : Program} {w : World} {K : PySem.W.Frag} {mg : Str → Option Value} {base : Heap} {f : Addr} {cdv : Value} {A : Around} {outer : List Env} {s : Shared} {H : Hp} {E : XK} {B : Ba} {T : List (Addr × Str)} (m_enumerate : mg "enumerate" = none)
    (hr : Room 0 (A.deeper (envOfC "_law_rising" (defScope s__law_rising) s.heap.objs.size f cdv))) (hgd : A.guards = some []) : DSs (cxOf CX0 P w K mg base N__law_rising "_law_rising" (defScope s__law_rising) f cdv A outer s H E) (B.wT T) [] (defBody s__law_rising) t__law_rising :=
  have hu : A.units + 3 + 100 < cLine := un0 hr
  have hN := sc__law_rising.nd
  dss_nox (dss_cons (ds_for [] .never rfl (di_enum rfl m_enumerate (da_cons (de_var 0) da_nil)) (dg_tup rfl (dgs_cons (dg_name 2 hN rfl rfl (by first | exact .inl rfl | exact .inr rfl)) (dgs_cons (dg_name 3 hN rfl rfl (by first | exact .inl rfl | exact .inr rfl)) dgs_nil))) (dss_one (ds_if (PW.pt (dw_or (dc_not (dc_ch (p := kleb) (q := kltb) op_le op_lt de_int (de_var 3) (de_var 1))) (dw_or1 (PW.pt (dw_and (dc_gt (de_var 2) de_int) (dw_and1 (dc_le (de_var 3) (de_sub' (de_var 0) (de_sub (de_var 2) de_int))))))))) (dss_one (ds_ret de_bl)) dss_nil))) (dss_one (ds_ret de_bl)))

-- _law_parts: N = ['_law_points_here', '_law_loss_here', '_law_some', '_law_point', '_law_met', '_law_one'], lk = []
theorem sc__law_parts : FnScope N__law_parts ["_law_points_here", "_law_loss_here", "_law_some"] (defScope s__law_parts) := ⟨rfl, rfl, rfl, by decide +kernel, rfl, by decide +kernel, by decide +kernel⟩
theorem b__law_parts {P : Program} {w : World} {K : PySem.W.Frag} {mg : Str → Option Value} {base : Heap} {f : Addr} {cdv : Value} {A : Around} {outer : List Env} {s : Shared} {H : Hp} {E : XK} {B : Ba} {T : List (Addr × Str)} (d__law_stands : Def T P w K mg base CX0 1 "_law_stands" [] 3 S__law_stands) (m_len : mg "len" = none)
    (hr : Room 1 (A.deeper (envOfC "_law_parts" (defScope s__law_parts) s.heap.objs.size f cdv))) (hgd : A.guards = some []) : DSs (cxOf CX0 P w K mg base N__law_parts "_law_parts" (defScope s__law_parts) f cdv A outer s H E) (B.wT T) [] (defBody s__law_parts) t__law_parts :=
  have hu : A.units + 3 + 100 < cLine := un0 hr
  have hN := sc__law_parts.nd
  dss_nox (dss_cons (ds_for [] .never rfl (di_seq (de_var 0)) (dg_name 3 hN rfl rfl (by first | exact .inl rfl | exact .inr rfl)) (dss_cons (ds_setLc [] 4 (fun _ _ _ h => le_frz h) rfl hN rfl rfl rfl rfl (di_seq (de_var 2)) (own := [("_law_one", 5)]) (blk_ok (by kernel_rfl)) rfl rfl (fun _ _ _ _ _ => (dg_name 5 hN rfl rfl (by first | exact .inl rfl | exact .inr rfl))) (fun _ _ _ _ _ => (dts_one (dc_val (de_call d__law_stands len__law_stands hr hgd (by decide) rfl (da_cons (de_var 3) (da_cons (de_sub' (de_var 0) (de_var 5)) (da_cons (de_var 1) da_nil))))))) (fun _ _ _ _ _ => de_int)) (dss_one (ds_if (dc_gt (de_len rfl m_len (da_cons (de_var 4) da_nil)) de_int) (dss_one (ds_ret de_bl)) dss_nil)))) (dss_one (ds_ret de_bl)))

-- _law_whole: N = ['_law_found'], lk = []
theorem sc__law_whole : FnScope N__law_whole ["_law_found"] (defScope s__law_whole) := ⟨rfl, rfl, rfl, by decide +kernel, rfl, by decide +kernel, by decide +kernel⟩
theorem b__law_whole {P : Program} {w : World} {K : PySem.W.Frag} {mg : Str → Option Value} {base : Heap} {f : Addr} {cdv : Value} {A : Around} {outer : List Env} {s : Shared} {H : Hp} {E : XK} {B : Ba} {T : List (Addr × Str)} (m_isinstance : mg "isinstance" = none) (m_int : mg "int" = none) (m_bool : mg "bool" = none)
    (hr : Room 0 (A.deeper (envOfC "_law_whole" (defScope s__law_whole) s.heap.objs.size f cdv))) (hgd : A.guards = some []) : DSs (cxOf CX0 P w K mg base N__law_whole "_law_whole" (defScope s__law_whole) f cdv A outer s H E) (B.wT T) [] (defBody s__law_whole) t__law_whole :=
  have hu : A.units + 3 + 100 < cLine := un0 hr
  have hN := sc__law_whole.nd
  dss_nox (dss_one (ds_ret (de_frz (de_and (de_isD is_int rfl m_isinstance (da_cons (de_var 0) (da_cons (de_ty rfl m_int (by decide +kernel)) da_nil))) (de_one (de_not (de_isD is_bool rfl m_isinstance (da_cons (de_var 0) (da_cons (de_ty rfl m_bool (by decide +kernel)) da_nil)))))))))

-- _law_wholes: N = ['_law_found', '_law_one'], lk = []
theorem sc__law_wholes : FnScope N__law_wholes ["_law_found"] (defScope s__law_wholes) := ⟨rfl, rfl, rfl, by decide +kernel, rfl, by decide +kernel, by decide +kernel⟩
theorem b__law_wholes {P : Program} {w : World} {K : PySem.W.Frag} {mg : Str → Option Value} {base : Heap} {f : Addr} {cdv : Value} {A : Around} {outer : List Env} {s : Shared} {H : Hp} {E : XK} {B : Ba} {T : List (Addr × Str)} (m_isinstance : mg "isinstance" = none) (m_tuple : mg "tuple" = none) (d__law_whole : Def T P w K mg base CX0 1 "_law_whole" [] 1 S__law_whole)
    (hr : Room 1 (A.deeper (envOfC "_law_wholes" (defScope s__law_wholes) s.heap.objs.size f cdv))) (hgd : A.guards = some []) : DSs (cxOf CX0 P w K mg base N__law_wholes "_law_wholes" (defScope s__law_wholes) f cdv A outer s H E) (B.wT T) [] (defBody s__law_wholes) t__law_wholes :=
  have hu : A.units + 3 + 100 < cLine := un0 hr
  have hN := sc__law_wholes.nd
  dss_nox (dss_one (ds_ret (de_frz (de_and (de_isD is_tuple rfl m_isinstance (da_cons (de_var 0) (da_cons (de_ty rfl m_tuple (by decide +kernel)) da_nil))) (de_one (de_notIn hu de_bl (de_lc [] rfl hN (di_seq (de_var 0)) (own := [("_law_one", 1)]) (blk_ok (by kernel_rfl)) rfl rfl (fun _ _ _ _ _ => (dg_name 1 hN rfl rfl (by first | exact .inl rfl | exact .inr rfl))) (fun _ _ _ _ _ => dts_nil) (fun _ _ _ _ _ => (de_frz (de_call d__law_whole len__law_whole hr hgd (by decide) rfl (da_cons (de_var 1) da_nil)))))))))))

-- _law_word: N = ['_law_caught', '_law_kinds', '_law_words'], lk = []
theorem sc__law_word : FnScope N__law_word ["_law_caught"] (defScope s__law_word) := ⟨rfl, rfl, rfl, by decide +kernel, rfl, by decide +kernel, by decide +kernel⟩
theorem b__law_word {P : Program} {w : World} {K : PySem.W.Frag} {mg : Str → Option Value} {base : Heap} {f : Addr} {cdv : Value} {A : Around} {outer : List Env} {s : Shared} {H : Hp} {E : XK} {B : Ba} {T : List (Addr × Str)} (m_isinstance : mg "isinstance" = none) (xl : ExL K mg LX) (m_ValueError : mg "ValueError" = none)
    (hr : Room 0 (A.deeper (envOfC "_law_word" (defScope s__law_word) s.heap.objs.size f cdv))) (hgd : A.guards = some []) : DSs (cxOf CX0 P w K mg base N__law_word "_law_word" (defScope s__law_word) f cdv A outer s H E) (B.wT T) [] (defBody s__law_word) t__law_word :=
  have hu : A.units + 3 + 100 < cLine := un0 hr
  have hN := sc__law_word.nd
  dss_nox (dss_cons (ds_set 1 hN rfl rfl (by first | exact .inl rfl | exact .inr rfl) (de_frz (de_lst (da_cons (de_isX (xl.sub (by decide +kernel)) (by decide +kernel) rfl rfl m_isinstance (de_var 0)) (da_cons (de_isX (xl.sub (by decide +kernel)) (by decide +kernel) rfl rfl m_isinstance (de_var 0)) (da_cons (de_isX (xl.sub (by decide +kernel)) (by decide +kernel) rfl rfl m_isinstance (de_var 0)) da_nil)))))) (dss_cons (ds_set 1 hN rfl rfl (by first | exact .inl rfl | exact .inr rfl) (de_frz (de_add (de_var 1) (de_lst (da_cons (de_isX (xl.sub (by decide +kernel)) (by decide +kernel) rfl rfl m_isinstance (de_var 0)) (da_cons (de_isX (xl.sub (by decide +kernel)) (by decide +kernel) rfl rfl m_isinstance (de_var 0)) da_nil)))))) (dss_cons (ds_set 1 hN rfl rfl (by first | exact .inl rfl | exact .inr rfl) (de_frz (de_add (de_var 1) (de_lst (da_cons (de_isX (xl.sub (by decide +kernel)) (by decide +kernel) rfl rfl m_isinstance (de_var 0)) (da_cons (de_isX (xl.sub (by decide +kernel)) (by decide +kernel) rfl rfl m_isinstance (de_var 0)) da_nil)))))) (dss_cons (ds_set 1 hN rfl rfl (by first | exact .inl rfl | exact .inr rfl) (de_frz (de_add (de_var 1) (de_lst (da_cons (de_isX (xl.sub (by decide +kernel)) (by decide +kernel) rfl rfl m_isinstance (de_var 0)) (da_cons (de_isX (xl.sub (by decide +kernel)) (by decide +kernel) rfl rfl m_isinstance (de_var 0)) da_nil)))))) (dss_cons (ds_set 1 hN rfl rfl (by first | exact .inl rfl | exact .inr rfl) (de_frz (de_add (de_var 1) (de_lst (da_cons (de_isX (xl.sub (by decide +kernel)) (by decide +kernel) rfl rfl m_isinstance (de_var 0)) (da_cons (de_isX (xl.sub (by decide +kernel)) (by decide +kernel) rfl rfl m_isinstance (de_var 0)) da_nil)))))) (dss_cons (ds_set 1 hN rfl rfl (by first | exact .inl rfl | exact .inr rfl) (de_frz (de_add (de_var 1) (de_lst (da_cons (de_isX (xl.sub (by decide +kernel)) (by decide +kernel) rfl rfl m_isinstance (de_var 0)) (da_cons (de_isX (xl.sub (by decide +kernel)) (by decide +kernel) rfl rfl m_isinstance (de_var 0)) da_nil)))))) (dss_cons (ds_set 1 hN rfl rfl (by first | exact .inl rfl | exact .inr rfl) (de_frz (de_add (de_var 1) (de_lst (da_cons (de_isX (xl.sub (by decide +kernel)) (by decide +kernel) rfl rfl m_isinstance (de_var 0)) (da_cons (de_isX (xl.sub (by decide +kernel)) (by decide +kernel) rfl rfl m_isinstance (de_var 0)) da_nil)))))) (dss_cons (ds_set 1 hN rfl rfl (by first | exact .inl rfl | exact .inr rfl) (de_frz (de_add (de_var 1) (de_lst (da_cons (de_isX (xl.sub (by decide +kernel)) (by decide +kernel) rfl rfl m_isinstance (de_var 0)) da_nil))))) (dss_cons (ds_set 2 hN rfl rfl (by first | exact .inl rfl | exact .inr rfl) (de_frz (de_lst (da_cons de_str (da_cons de_str (da_cons de_str (da_cons de_str (da_cons de_str (da_cons de_str (da_cons de_str (da_cons de_str (da_cons de_str (da_cons de_str (da_cons de_str da_nil)))))))))))))) (dss_cons (ds_set 2 hN rfl rfl (by first | exact .inl rfl | exact .inr rfl) (de_frz (de_add (de_var 2) (de_lst (da_cons de_str (da_cons de_str (da_cons de_str (da_cons de_str (da_cons de_str da_nil))))))))) (dss_cons (ds_if (PW.pt (dw_or (dc_ne hu (de_countB (de_var 1)) de_int) (dw_or1 (dc_not (dc_val (de_isVE (xl.sub (by decide +kernel)) rfl m_ValueError rfl m_isinstance (de_var 0))))))) (dss_one (ds_ret de_str)) dss_nil) (dss_one (ds_ret (de_sub' (de_var 2) (de_indexB (de_var 1))))))))))))))))

-- _law_right: N = ['_law_book', '_law_loss_here', '_law_found', '_law_lot', '_law_witnesses', '_law_many'], lk = []
theorem sc__law_right : FnScope N__law_right ["_law_book", "_law_loss_here"] (defScope s__law_right) := ⟨rfl, rfl, rfl, by decide +kernel, rfl, by decide +kernel, by decide +kernel⟩
theorem b__law_right {P : Program} {w : World} {K : PySem.W.Frag} {mg : Str → Option Value} {base : Heap} {f : Addr} {cdv : Value} {A : Around} {outer : List Env} {s : Shared} {H : Hp} {E : XK} {B : Ba} {T : List (Addr × Str)} (d_fewest : Def T P w K mg base CX0 5 "fewest" [] 2 (nxS S_fewest)) (m_isinstance : mg "isinstance" = none) (m_tuple : mg "tuple" = none) (m_len : mg "len" = none) (d__law_wholes : Def T P w K mg base CX0 2 "_law_wholes" [] 1 S__law_wholes) (d__law_rising : Def T P w K mg base CX0 1 "_law_rising" [] 2 S__law_rising) (d__law_covers : Def T P w K mg base CX0 2 "_law_covers" [] 3 S__law_covers) (d__law_parts : Def T P w K mg base CX0 2 "_law_parts" [] 3 S__law_parts)
    (hr : Room 5 (A.deeper (envOfC "_law_right" (defScope s__law_right) s.heap.objs.size f cdv))) (hgd : A.guards = some []) : DSs (cxOf CX0 P w K mg base N__law_right "_law_right" (defScope s__law_right) f cdv A outer s H E) (B.wT T) [] (defBody s__law_right) t__law_right :=
  have hu : A.units + 3 + 100 < cLine := un0 hr
  have hN := sc__law_right.nd
  dss_nox (dss_cons (ds_set 2 hN rfl rfl (by first | exact .inl rfl | exact .inr rfl) (de_frz (de_call d_fewest (fun _ _ _ h => len_fewest _ _ _ h) hr hgd (by decide) rfl (da_cons (de_var 0) (da_cons (de_var 1) da_nil))))) (dss_cons (ds_if (PW.pt (dw_or (dc_not (dc_val (de_isD is_tuple rfl m_isinstance (da_cons (de_var 2) (da_cons (de_ty rfl m_tuple (by decide +kernel)) da_nil))))) (dw_or1 (dc_ne hu (de_len rfl m_len (da_cons (de_var 2) da_nil)) de_int)))) (dss_one (ds_ret de_bl)) dss_nil) (dss_cons (ds_asg (de_var 2) (dg_tup rfl (dgs_cons (dg_name 3 hN rfl rfl (by first | exact .inl rfl | exact .inr rfl)) (dgs_cons (dg_name 4 hN rfl rfl (by first | exact .inl rfl | exact .inr rfl)) dgs_nil)))) (dss_cons (ds_if (PW.pt (dw_or (dc_not (dc_val (de_call d__law_wholes len__law_wholes hr hgd (by decide) rfl (da_cons (de_var 3) da_nil)))) (dw_or (dc_not (dc_val (de_call d__law_wholes len__law_wholes hr hgd (by decide) rfl (da_cons (de_var 4) da_nil)))) (dw_or1 (dc_ne hu (de_len rfl m_len (da_cons (de_var 3) da_nil)) (de_len rfl m_len (da_cons (de_var 4) da_nil))))))) (dss_one (ds_ret de_bl)) dss_nil) (dss_cons (ds_set 5 hN rfl rfl (by first | exact .inl rfl | exact .inr rfl) (de_len rfl m_len (da_cons (de_sub' (de_varP 0) de_int) da_nil))) (dss_cons (ds_if (PW.pt (dw_or (dc_not (dc_val (de_call d__law_rising len__law_rising hr hgd (by decide) rfl (da_cons (de_var 3) (da_cons (de_var 5) da_nil))))) (dw_or1 (dc_not (dc_val (de_call d__law_rising len__law_rising hr hgd (by decide) rfl (da_cons (de_var 4) (da_cons (de_var 5) da_nil)))))))) (dss_one (ds_ret de_bl)) dss_nil) (dss_cons (ds_if (dc_not (dc_val (de_call d__law_covers len__law_covers hr hgd (by decide) rfl (da_cons (de_sub' (de_varP 0) de_int) (da_cons (de_var 1) (da_cons (de_var 3) da_nil)))))) (dss_one (ds_ret de_bl)) dss_nil) (dss_one (ds_ret (de_frz (de_and (de_call d__law_parts len__law_parts hr hgd (by decide) rfl (da_cons (de_sub' (de_varP 0) de_int) (da_cons (de_var 1) (da_cons (de_var 4) da_nil)))) (de_one (de_eq hu (de_call d_fewest (fun _ _ _ h => len_fewest _ _ _ h) hr hgd (by decide) rfl (da_cons (de_var 0) (da_cons (de_var 1) da_nil))) (de_var 2))))))))))))))

-- _law_refused: N = ['_law_book', '_law_loss_here', '_law_caught', 'e'], lk = []
theorem sc__law_refused : FnScope N__law_refused ["_law_book", "_law_loss_here"] (defScope s__law_refused) := ⟨rfl, rfl, rfl, by decide +kernel, rfl, by decide +kernel, by decide +kernel⟩
theorem b__law_refused {P : Program} {w : World} {K : PySem.W.Frag} {mg : Str → Option Value} {base : Heap} {f : Addr} {cdv : Value} {A : Around} {outer : List Env} {s : Shared} {H : Hp} {E : XK} {B : Ba} {T : List (Addr × Str)} (g_PointError : mg "PointError" = some (.ref (He.ga K "PointError"))) (xl : ExL K mg LX) (e_fewest : Def T P w K mg base (L2.CX P w) 5 "fewest" [] 2 S_fewest) (d__law_word : Def T P w K mg base CX0 1 "_law_word" [] 1 S__law_word)
    (hr : Room 5 (A.deeper (envOfC "_law_refused" (defScope s__law_refused) s.heap.objs.size f cdv))) (hgd : A.guards = some []) : DSs0 (cxOf CX0 P w K mg base N__law_refused "_law_refused" (defScope s__law_refused) f cdv A outer s H E) (B.wT T) [] (defBody s__law_refused) t__law_refused :=
  have hu : A.units + 3 + 100 < cLine := un0 hr
  have hN := sc__law_refused.nd
  dss0_nox (dss0_cons (ds0_of (ds_set 2 hN rfl rfl (by first | exact .inl rfl | exact .inr rfl) de_non)) (dss0_cons (ds_try rfl rfl rfl hN rfl rfl ⟨rfl, by decide, .inl g_PointError⟩ takes_nox rfl (fun x hx => xl.ex x ((by decide +kernel : ∀ x ∈ (["NoLoss", "NoMeasures"] : List Str), x ∈ LX) x hx)) (fun EX1 pn1 xe1 tk1 po1 => (dss_one (ds_expr (de_callX e_fewest tk1 len_fewest hr hgd (by decide) rfl (da_cons (de_var 0) (da_cons (de_var 1) da_nil)))))) (fun a1 pn1 => (dss_one (ds_set 2 hN rfl rfl (by first | exact .inl rfl | exact .inr rfl) (de_var 3))))) (dss0_one (ds0_of (ds_ret (de_frz (de_call d__law_word len__law_word hr hgd (by decide) rfl (da_cons (de_var 2) da_nil))))))))

-- law: N = ['_law_script', '_law_k', '_law_deck_here', '_law_book', '_law_loss_here', '_law_bad', '_law_measures', '_law_other'], lk = []
theorem sc_law : FnScope N_law ["_law_script"] (defScope s_law) := ⟨rfl, rfl, rfl, by decide +kernel, rfl, by decide +kernel, by decide +kernel⟩
theorem b_law {P : Program} {w : World} {K : PySem.W.Frag} {mg : Str → Option Value} {base : Heap} {f : Addr} {cdv : Value} {A : Around} {outer : List Env} {s : Shared} {H : Hp} {E : XK} {B : Ba} {T : List (Addr × Str)} (m_range : mg "range" = none) (d__law_deck : Def T P w K mg base CX0 1 "_law_deck" [] 2 S__law_deck) (d__law_points : Def T P w K mg base CX0 4 "_law_points" [0] 3 S__law_points) (d__law_loss : Def T P w K mg base CX0 3 "_law_loss" [0] 2 S__law_loss) (d__law_right : Def T P w K mg base CX0 6 "_law_right" [] 2 S__law_right) (d__law_no_loss : Def T P w K mg base CX0 3 "_law_no_loss" [0] 1 S__law_no_loss) (d__law_next : Def T P w K mg base CX0 2 "_law_next" [0] 2 S__law_next) (d__law_refused : Def T P w K mg base CX0 6 "_law_refused" [] 2 S__law_refused)
    (hr : Room 6 (A.deeper (envOfC "law" (defScope s_law) s.heap.objs.size f cdv))) (hgd : A.guards = some []) : DSs (cxOf CX0 P w K mg base N_law "law" (defScope s_law) f cdv A outer s H E) (B.wT T) [] (defBody s_law) t_law :=
  have hu : A.units + 3 + 100 < cLine := un0 hr
  have hN := sc_law.nd
  dss_nox (dss_cons (ds_for [] .never rfl (di_range1 rfl m_range (da_cons de_int da_nil)) (dg_name 1 hN rfl rfl (by first | exact .inl rfl | exact .inr rfl)) (dss_cons (ds_set 2 hN rfl rfl (by first | exact .inl rfl | exact .inr rfl) (de_call d__law_deck len__law_deck hr hgd (by decide) rfl (da_cons (de_frz (de_slk (de_var 0) (do_at (de_var 1)) (do_at de_int))) (da_cons (de_var 1) da_nil)))) (dss_cons (ds_set 3 hN rfl rfl (by first | exact .inl rfl | exact .inr rfl) (de_tup (da_cons de_int (da_cons (de_frz (de_call d__law_points len__law_points hr hgd (by decide) rfl (da_cons (de_var 2) (da_cons de_int (da_cons de_int da_nil))))) da_nil)))) (dss_cons (ds_set 4 hN rfl rfl (by first | exact .inl rfl | exact .inr rfl) (de_frz (de_call d__law_loss len__law_loss hr hgd (by decide) rfl (da_cons (de_var 2) (da_cons (de_sub' (de_varP 3) de_int) da_nil))))) (dss_cons (ds_if (dc_not (dc_val (de_call d__law_right len__law_right hr hgd (by decide) rfl (da_cons (de_var 3) (da_cons (de_var 4) da_nil))))) (dss_one (ds_ret de_bl)) dss_nil) (dss_cons (ds_set 5 hN rfl rfl (by first | exact .inl rfl | exact .inr rfl) (de_frz (de_call d__law_no_loss len__law_no_loss hr hgd (by decide) rfl (da_cons (de_var 2) da_nil)))) (dss_cons (ds_set 6 hN rfl rfl (by first | exact .inl rfl | exact .inr rfl) (de_sub' (de_lst (da_cons de_int (da_cons de_int (da_cons de_int da_nil)))) (de_call d__law_next len__law_next hr hgd (by decide) rfl (da_cons (de_var 2) (da_cons de_int da_nil))))) (dss_cons (ds_set 7 hN rfl rfl (by first | exact .inl rfl | exact .inr rfl) (de_tup (da_cons (de_var 6) (da_cons (de_frz (de_call d__law_points len__law_points hr hgd (by decide) rfl (da_cons (de_var 2) (da_cons (de_var 6) (da_cons de_int da_nil))))) da_nil)))) (dss_cons (ds_if (PW.pt (dw_or (dc_ne hu (de_call d__law_refused len__law_refused hr hgd (by decide) rfl (da_cons (de_var 3) (da_cons (de_var 5) da_nil))) de_str) (dw_or1 (dc_ne hu (de_call d__law_refused len__law_refused hr hgd (by decide) rfl (da_cons (de_var 7) (da_cons (de_var 5) da_nil))) de_str)))) (dss_one (ds_ret de_bl)) dss_nil) (dss_one (ds_if (dc_ne hu (de_call d__law_refused len__law_refused hr hgd (by decide) rfl (da_cons (de_var 7) (da_cons (de_var 4) da_nil))) de_str) (dss_one (ds_ret de_bl)) dss_nil))))))))))) (dss_one (ds_ret de_bl)))

/-! ### each def keeps its promise -/
theorem ok_is_whole {P : Program} {w : World} {K : PySem.W.Frag} {mg : Str → Option Value} {base : Heap} {f : Addr} {fd : FuncData} {T : List (Addr × Str)}  (F : FunD K "is_whole" "is_whole" (defArgs s_is_whole) (defBody s_is_whole) (defScope s_is_whole) [] [] f fd) (hm : mg "is_whole" = some (.ref f)) (m_isinstance : mg "isinstance" = none) (m_int : mg "int" = none) (m_bool : mg "bool" = none) : Def T P w K mg base CX0 1 "is_whole" [] 1 S_is_whole :=
  ⟨⟨f, fd, ["thing"], hm, def_run F sc_is_whole rfl (by decide) t_is_whole (fun cdv A outer s H E B hr hgd => b_is_whole m_isinstance m_int m_bool hr hgd) r_is_whole, F.bindsN fun _ _ _ _ _ _ us hl => match us, hl with | [_], _ => rfl, F.kp⟩⟩
theorem ok_is_within {P : Program} {w : World} {K : PySem.W.Frag} {mg : Str → Option Value} {base : Heap} {f : Addr} {fd : FuncData} {T : List (Addr × Str)}  (F : FunD K "is_within" "is_within" (defArgs s_is_within) (defBody s_is_within) (defScope s_is_within) [] [] f fd) (hm : mg "is_within" = some (.ref f)) (d_is_whole : Def T P w K mg base CX0 1 "is_whole" [] 1 S_is_whole) : Def T P w K mg base CX0 2 "is_within" [] 3 S_is_within :=
  ⟨⟨f, fd, ["thing", "low", "high"], hm, def_run F sc_is_within rfl (by decide) t_is_within (fun cdv A outer s H E B hr hgd => b_is_within d_is_whole hr hgd) r_is_within, F.bindsN fun _ _ _ _ _ _ us hl => match us, hl with | [_, _, _], _ => rfl, F.kp⟩⟩
theorem ok_is_over {P : Program} {w : World} {K : PySem.W.Frag} {mg : Str → Option Value} {base : Heap} {f : Addr} {fd : FuncData} {T : List (Addr × Str)}  (F : FunD K "is_over" "is_over" (defArgs s_is_over) (defBody s_is_over) (defScope s_is_over) [] [] f fd) (hm : mg "is_over" = some (.ref f)) (m_all : mg "all" = none) (m_zip : mg "zip" = none) : Def T P w K mg base CX0 1 "is_over" [] 2 S_is_over :=
  ⟨⟨f, fd, ["one", "other"], hm, def_run F sc_is_over rfl (by decide) t_is_over (fun cdv A outer s H E B hr hgd => b_is_over m_all m_zip hr hgd) r_is_over, F.bindsN fun _ _ _ _ _ _ us hl => match us, hl with | [_, _], _ => rfl, F.kp⟩⟩
theorem ok_does_beat {P : Program} {w : World} {K : PySem.W.Frag} {mg : Str → Option Value} {base : Heap} {f : Addr} {fd : FuncData} {T : List (Addr × Str)}  (F : FunD K "does_beat" "does_beat" (defArgs s_does_beat) (defBody s_does_beat) (defScope s_does_beat) [] [] f fd) (hm : mg "does_beat" = some (.ref f)) (d_is_over : Def T P w K mg base CX0 1 "is_over" [] 2 S_is_over) : Def T P w K mg base CX0 2 "does_beat" [] 2 S_does_beat :=
  ⟨⟨f, fd, ["one", "other"], hm, def_run F sc_does_beat rfl (by decide) t_does_beat (fun cdv A outer s H E B hr hgd => b_does_beat d_is_over hr hgd) r_does_beat, F.bindsN fun _ _ _ _ _ _ us hl => match us, hl with | [_, _], _ => rfl, F.kp⟩⟩
theorem ok_is_unbeaten {P : Program} {w : World} {K : PySem.W.Frag} {mg : Str → Option Value} {base : Heap} {f : Addr} {fd : FuncData} {T : List (Addr × Str)}  (F : FunD K "is_unbeaten" "is_unbeaten" (defArgs s_is_unbeaten) (defBody s_is_unbeaten) (defScope s_is_unbeaten) [] [] f fd) (hm : mg "is_unbeaten" = some (.ref f)) (m_any : mg "any" = none) (d_does_beat : Def T P w K mg base CX0 2 "does_beat" [] 2 S_does_beat) : Def T P w K mg base CX0 3 "is_unbeaten" [] 2 S_is_unbeaten :=
  ⟨⟨f, fd, ["points", "number"], hm, def_run F sc_is_unbeaten rfl (by decide) t_is_unbeaten (fun cdv A outer s H E B hr hgd => b_is_unbeaten m_any d_does_beat hr hgd) r_is_unbeaten, F.bindsN fun _ _ _ _ _ _ us hl => match us, hl with | [_, _], _ => rfl, F.kp⟩⟩
theorem ok_need_loss {P : Program} {w : World} {K : PySem.W.Frag} {mg : Str → Option Value} {base : Heap} {f : Addr} {fd : FuncData} {T : List (Addr × Str)}  (F : FunD K "need_loss" "need_loss" (defArgs s_need_loss) (defBody s_need_loss) (defScope s_need_loss) [] [] f fd) (hm : mg "need_loss" = some (.ref f)) (d_is_within : Def T P w K mg base CX0 2 "is_within" [] 3 S_is_within) (c_MOST_LOSS : ∃ t, mg "MOST_LOSS" = some (.int 2000000000 t)) (x_NoLoss : ExcG K mg "NoLoss") : Def T P w K mg base (L2.CX P w) 3 "need_loss" [] 1 S_need_loss :=
  ⟨⟨f, fd, ["loss"], hm, def_runX F sc_need_loss rfl (by decide) t_need_loss (fun cdv A outer s H E B EX hr hgd tk hp => b_need_loss d_is_within c_MOST_LOSS x_NoLoss hr hgd tk hp) r_need_loss, F.bindsN fun _ _ _ _ _ _ us hl => match us, hl with | [_], _ => rfl, F.kp⟩⟩
theorem ok_need_two {P : Program} {w : World} {K : PySem.W.Frag} {mg : Str → Option Value} {base : Heap} {f : Addr} {fd : FuncData} {T : List (Addr × Str)}  (F : FunD K "need_two" "need_two" (defArgs s_need_two) (defBody s_need_two) (defScope s_need_two) [] [] f fd) (hm : mg "need_two" = some (.ref f)) (x_NoMeasures : ExcG K mg "NoMeasures") : Def T P w K mg base (L2.CX P w) 1 "need_two" [] 1 S_need_two :=
  ⟨⟨f, fd, ["book"], hm, def_runX F sc_need_two rfl (by decide) t_need_two (fun cdv A outer s H E B EX hr hgd tk hp => b_need_two x_NoMeasures hr hgd tk hp) r_need_two, F.bindsN fun _ _ _ _ _ _ us hl => match us, hl with | [_], _ => rfl, F.kp⟩⟩
theorem ok_does_stand {P : Program} {w : World} {K : PySem.W.Frag} {mg : Str → Option Value} {base : Heap} {f : Addr} {fd : FuncData} {T : List (Addr × Str)}  (F : FunD K "does_stand" "does_stand" (defArgs s_does_stand) (defBody s_does_stand) (defScope s_does_stand) [] [] f fd) (hm : mg "does_stand" = some (.ref f)) (m_all : mg "all" = none) (m_zip : mg "zip" = none) : Def T P w K mg base CX0 1 "does_stand" [] 3 S_does_stand :=
  ⟨⟨f, fd, ["one", "other", "loss"], hm, def_run F sc_does_stand rfl (by decide) t_does_stand (fun cdv A outer s H E B hr hgd => b_does_stand m_all m_zip hr hgd) r_does_stand, F.bindsN fun _ _ _ _ _ _ us hl => match us, hl with | [_, _, _], _ => rfl, F.kp⟩⟩
theorem ok_stair_of {P : Program} {w : World} {K : PySem.W.Frag} {mg : Str → Option Value} {base : Heap} {f : Addr} {fd : FuncData} {T : List (Addr × Str)}  (F : FunD K "stair_of" "stair_of" (defArgs s_stair_of) (defBody s_stair_of) (defScope s_stair_of) [] [] f fd) (hm : mg "stair_of" = some (.ref f)) (m_range : mg "range" = none) (m_len : mg "len" = none) (d_is_unbeaten : Def T P w K mg base CX0 3 "is_unbeaten" [] 2 S_is_unbeaten) (m_sorted : mg "sorted" = none) (lam : ∀ cdv, CodeV K f "stair_of" cdv → LamC base mg T cdv ("stair_of" ++ ".<locals>." ++ "<lambda>")) : Def T P w K mg base CX0 4 "stair_of" [] 1 S_stair_of :=
  ⟨⟨f, fd, ["points"], hm, def_runL F sc_stair_of rfl (by decide) t_stair_of (fun cdv hcv A outer s H E B hr hgd => b_stair_of m_range m_len d_is_unbeaten m_sorted (lam cdv hcv) hr hgd) r_stair_of, F.bindsN fun _ _ _ _ _ _ us hl => match us, hl with | [_], _ => rfl, F.kp⟩⟩
theorem ok_last_for {P : Program} {w : World} {K : PySem.W.Frag} {mg : Str → Option Value} {base : Heap} {f : Addr} {fd : FuncData} {T : List (Addr × Str)}  (F : FunD K "last_for" "last_for" (defArgs s_last_for) (defBody s_last_for) (defScope s_last_for) [] [] f fd) (hm : mg "last_for" = some (.ref f)) (d_does_stand : Def T P w K mg base CX0 1 "does_stand" [] 3 S_does_stand) : Def T P w K mg base CX0 2 "last_for" [] 3 S_last_for :=
  ⟨⟨f, fd, ["points", "some", "loss"], hm, def_run F sc_last_for rfl (by decide) t_last_for (fun cdv A outer s H E B hr hgd => b_last_for d_does_stand hr hgd) r_last_for, F.bindsN fun _ _ _ _ _ _ us hl => match us, hl with | [_, _, _], _ => rfl, F.kp⟩⟩
theorem ok_gone_along {P : Program} {w : World} {K : PySem.W.Frag} {mg : Str → Option Value} {base : Heap} {f : Addr} {fd : FuncData} {T : List (Addr × Str)}  (F : FunD K "gone_along" "gone_along" (defArgs s_gone_along) (defBody s_gone_along) (defScope s_gone_along) [] [] f fd) (hm : mg "gone_along" = some (.ref f)) (m_enumerate : mg "enumerate" = none) (d_does_stand : Def T P w K mg base CX0 1 "does_stand" [] 3 S_does_stand) (d_last_for : Def T P w K mg base CX0 2 "last_for" [] 3 S_last_for) (m_tuple : mg "tuple" = none) (m_sorted : mg "sorted" = none) : Def T P w K mg base CX0 3 "gone_along" [] 3 S_gone_along :=
  ⟨⟨f, fd, ["points", "stair", "loss"], hm, def_run F sc_gone_along rfl (by decide) t_gone_along (fun cdv A outer s H E B hr hgd => b_gone_along m_enumerate d_does_stand d_last_for m_tuple m_sorted hr hgd) r_gone_along, F.bindsN fun _ _ _ _ _ _ us hl => match us, hl with | [_, _, _], _ => rfl, F.kp⟩⟩
theorem ok_fewest {P : Program} {w : World} {K : PySem.W.Frag} {mg : Str → Option Value} {base : Heap} {f : Addr} {fd : FuncData} {T : List (Addr × Str)}  (F : FunD K "fewest" "fewest" (defArgs s_fewest) (defBody s_fewest) (defScope s_fewest) [] [] f fd) (hm : mg "fewest" = some (.ref f)) (e_need_two : Def T P w K mg base (L2.CX P w) 1 "need_two" [] 1 S_need_two) (e_need_loss : Def T P w K mg base (L2.CX P w) 3 "need_loss" [] 1 S_need_loss) (d_gone_along : Def T P w K mg base CX0 3 "gone_along" [] 3 S_gone_along) (d_stair_of : Def T P w K mg base CX0 4 "stair_of" [] 1 S_stair_of) : Def T P w K mg base (L2.CX P w) 5 "fewest" [] 2 S_fewest :=
  ⟨⟨f, fd, ["book", "loss"], hm, def_runX F sc_fewest rfl (by decide) t_fewest (fun cdv A outer s H E B EX hr hgd tk hp => b_fewest e_need_two e_need_loss d_gone_along d_stair_of hr hgd tk hp) r_fewest, F.bindsN fun _ _ _ _ _ _ us hl => match us, hl with | [_, _], _ => rfl, F.kp⟩⟩
theorem ok__law_mix {P : Program} {w : World} {K : PySem.W.Frag} {mg : Str → Option Value} {base : Heap} {f : Addr} {fd : FuncData} {T : List (Addr × Str)}  (F : FunD K "_law_mix" "_law_mix" (defArgs s__law_mix) (defBody s__law_mix) (defScope s__law_mix) [] [] f fd) (hm : mg "_law_mix" = some (.ref f))  : Def T P w K mg base CX0 1 "_law_mix" [] 2 S__law_mix :=
  ⟨⟨f, fd, ["_law_cell", "_law_k"], hm, def_run F sc__law_mix rfl (by decide) t__law_mix (fun cdv A outer s H E B hr hgd => b__law_mix  hr hgd) r__law_mix, F.bindsN fun _ _ _ _ _ _ us hl => match us, hl with | [_, _], _ => rfl, F.kp⟩⟩
theorem ok__law_deck {P : Program} {w : World} {K : PySem.W.Frag} {mg : Str → Option Value} {base : Heap} {f : Addr} {fd : FuncData} {T : List (Addr × Str)}  (F : FunD K "_law_deck" "_law_deck" (defArgs s__law_deck) (defBody s__law_deck) (defScope s__law_deck) [] [] f fd) (hm : mg "_law_deck" = some (.ref f)) (m_sum : mg "sum" = none) : Def T P w K mg base CX0 1 "_law_deck" [] 2 S__law_deck :=
  ⟨⟨f, fd, ["_law_cells", "_law_salt"], hm, def_run F sc__law_deck rfl (by decide) t__law_deck (fun cdv A outer s H E B hr hgd => b__law_deck m_sum hr hgd) r__law_deck, F.bindsN fun _ _ _ _ _ _ us hl => match us, hl with | [_, _], _ => rfl, F.kp⟩⟩
theorem ok__law_next {P : Program} {w : World} {K : PySem.W.Frag} {mg : Str → Option Value} {base : Heap} {f : Addr} {fd : FuncData} {T : List (Addr × Str)}  (F : FunD K "_law_next" "_law_next" (defArgs s__law_next) (defBody s__law_next) (defScope s__law_next) [] [] f fd) (hm : mg "_law_next" = some (.ref f)) (m_len : mg "len" = none) (d__law_mix : Def T P w K mg base CX0 1 "_law_mix" [] 2 S__law_mix) : Def T P w K mg base CX0 2 "_law_next" [0] 2 S__law_next :=
  ⟨⟨f, fd, ["_law_deck_here", "_law_many"], hm, def_run F sc__law_next rfl (by decide) t__law_next (fun cdv A outer s H E B hr hgd => b__law_next m_len d__law_mix hr hgd) r__law_next, F.bindsN fun _ _ _ _ _ _ us hl => match us, hl with | [_, _], _ => rfl, F.kp⟩⟩
theorem ok__law_number {P : Program} {w : World} {K : PySem.W.Frag} {mg : Str → Option Value} {base : Heap} {f : Addr} {fd : FuncData} {T : List (Addr × Str)}  (F : FunD K "_law_number" "_law_number" (defArgs s__law_number) (defBody s__law_number) (defScope s__law_number) [] [] f fd) (hm : mg "_law_number" = some (.ref f)) (d__law_next : Def T P w K mg base CX0 2 "_law_next" [0] 2 S__law_next) : Def T P w K mg base CX0 3 "_law_number" [0] 2 S__law_number :=
  ⟨⟨f, fd, ["_law_deck_here", "_law_way"], hm, def_run F sc__law_number rfl (by decide) t__law_number (fun cdv A outer s H E B hr hgd => b__law_number d__law_next hr hgd) r__law_number, F.bindsN fun _ _ _ _ _ _ us hl => match us, hl with | [_, _], _ => rfl, F.kp⟩⟩
theorem ok__law_points {P : Program} {w : World} {K : PySem.W.Frag} {mg : Str → Option Value} {base : Heap} {f : Addr} {fd : FuncData} {T : List (Addr × Str)}  (F : FunD K "_law_points" "_law_points" (defArgs s__law_points) (defBody s__law_points) (defScope s__law_points) [] [] f fd) (hm : mg "_law_points" = some (.ref f)) (d__law_next : Def T P w K mg base CX0 2 "_law_next" [0] 2 S__law_next) (m_range : mg "range" = none) (m_len : mg "len" = none) (m_tuple : mg "tuple" = none) (m_max : mg "max" = none) (d__law_number : Def T P w K mg base CX0 3 "_law_number" [0] 2 S__law_number) : Def T P w K mg base CX0 4 "_law_points" [0] 3 S__law_points :=
  ⟨⟨f, fd, ["_law_deck_here", "_law_measures", "_law_most"], hm, def_run F sc__law_points rfl (by decide) t__law_points (fun cdv A outer s H E B hr hgd => b__law_points d__law_next m_range m_len m_tuple m_max d__law_number hr hgd) r__law_points, F.bindsN fun _ _ _ _ _ _ us hl => match us, hl with | [_, _, _], _ => rfl, F.kp⟩⟩
theorem ok__law_loss {P : Program} {w : World} {K : PySem.W.Frag} {mg : Str → Option Value} {base : Heap} {f : Addr} {fd : FuncData} {T : List (Addr × Str)}  (F : FunD K "_law_loss" "_law_loss" (defArgs s__law_loss) (defBody s__law_loss) (defScope s__law_loss) [] [] f fd) (hm : mg "_law_loss" = some (.ref f)) (d__law_next : Def T P w K mg base CX0 2 "_law_next" [0] 2 S__law_next) (m_len : mg "len" = none) (m_abs : mg "abs" = none) (m_max : mg "max" = none) (m_min : mg "min" = none) : Def T P w K mg base CX0 3 "_law_loss" [0] 2 S__law_loss :=
  ⟨⟨f, fd, ["_law_deck_here", "_law_points_here"], hm, def_run F sc__law_loss rfl (by decide) t__law_loss (fun cdv A outer s H E B hr hgd => b__law_loss d__law_next m_len m_abs m_max m_min hr hgd) r__law_loss, F.bindsN fun _ _ _ _ _ _ us hl => match us, hl with | [_, _], _ => rfl, F.kp⟩⟩
theorem ok__law_no_loss {P : Program} {w : World} {K : PySem.W.Frag} {mg : Str → Option Value} {base : Heap} {f : Addr} {fd : FuncData} {T : List (Addr × Str)}  (F : FunD K "_law_no_loss" "_law_no_loss" (defArgs s__law_no_loss) (defBody s__law_no_loss) (defScope s__law_no_loss) [] [] f fd) (hm : mg "_law_no_loss" = some (.ref f)) (d__law_next : Def T P w K mg base CX0 2 "_law_next" [0] 2 S__law_next) : Def T P w K mg base CX0 3 "_law_no_loss" [0] 1 S__law_no_loss :=
  ⟨⟨f, fd, ["_law_deck_here"], hm, def_run F sc__law_no_loss rfl (by decide) t__law_no_loss (fun cdv A outer s H E B hr hgd => b__law_no_loss d__law_next hr hgd) r__law_no_loss, F.bindsN fun _ _ _ _ _ _ us hl => match us, hl with | [_], _ => rfl, F.kp⟩⟩
theorem ok__law_stands {P : Program} {w : World} {K : PySem.W.Frag} {mg : Str → Option Value} {base : Heap} {f : Addr} {fd : FuncData} {T : List (Addr × Str)}  (F : FunD K "_law_stands" "_law_stands" (defArgs s__law_stands) (defBody s__law_stands) (defScope s__law_stands) [] [] f fd) (hm : mg "_law_stands" = some (.ref f)) (m_zip : mg "zip" = none) : Def T P w K mg base CX0 1 "_law_stands" [] 3 S__law_stands :=
  ⟨⟨f, fd, ["_law_one", "_law_other", "_law_loss_here"], hm, def_run F sc__law_stands rfl (by decide) t__law_stands (fun cdv A outer s H E B hr hgd => b__law_stands m_zip hr hgd) r__law_stands, F.bindsN fun _ _ _ _ _ _ us hl => match us, hl with | [_, _, _], _ => rfl, F.kp⟩⟩
theorem ok__law_covers {P : Program} {w : World} {K : PySem.W.Frag} {mg : Str → Option Value} {base : Heap} {f : Addr} {fd : FuncData} {T : List (Addr × Str)}  (F : FunD K "_law_covers" "_law_covers" (defArgs s__law_covers) (defBody s__law_covers) (defScope s__law_covers) [] [] f fd) (hm : mg "_law_covers" = some (.ref f)) (d__law_stands : Def T P w K mg base CX0 1 "_law_stands" [] 3 S__law_stands) : Def T P w K mg base CX0 2 "_law_covers" [] 3 S__law_covers :=
  ⟨⟨f, fd, ["_law_points_here", "_law_loss_here", "_law_some"], hm, def_run F sc__law_covers rfl (by decide) t__law_covers (fun cdv A outer s H E B hr hgd => b__law_covers d__law_stands hr hgd) r__law_covers, F.bindsN fun _ _ _ _ _ _ us hl => match us, hl with | [_, _, _], _ => rfl, F.kp⟩⟩
theorem ok__law_rising {P : Program} {w : World} {K : PySem.W.Frag} {mg : Str → Option Value} {base : Heap} {f : Addr} {fd : FuncData} {T : List (Addr × Str)}  (F : FunD K "_law_rising" "_law_rising" (defArgs s__law_rising) (defBody s__law_rising) (defScope s__law_rising) [] [] f fd) (hm : mg "_law_rising" = some (.ref f)) (m_enumerate : mg "enumerate" = none) : Def T P w K mg base CX0 1 "_law_rising" [] 2 S__law_rising :=
  ⟨⟨f, fd, ["_law_thing", "_law_many"], hm, def_run F sc__law_rising rfl (by decide) t__law_rising (fun cdv A outer s H E B hr hgd => b__law_rising m_enumerate hr hgd) r__law_rising, F.bindsN fun _ _ _ _ _ _ us hl => match us, hl with | [_, _], _ => rfl, F.kp⟩⟩
theorem ok__law_parts {P : Program} {w : World} {K : PySem.W.Frag} {mg : Str → Option Value} {base : Heap} {f : Addr} {fd : FuncData} {T : List (Addr × Str)}  (F : FunD K "_law_parts" "_law_parts" (defArgs s__law_parts) (defBody s__law_parts) (defScope s__law_parts) [] [] f fd) (hm : mg "_law_parts" = some (.ref f)) (d__law_stands : Def T P w K mg base CX0 1 "_law_stands" [] 3 S__law_stands) (m_len : mg "len" = none) : Def T P w K mg base CX0 2 "_law_parts" [] 3 S__law_parts :=
  ⟨⟨f, fd, ["_law_points_here", "_law_loss_here", "_law_some"], hm, def_run F sc__law_parts rfl (by decide) t__law_parts (fun cdv A outer s H E B hr hgd => b__law_parts d__law_stands m_len hr hgd) r__law_parts, F.bindsN fun _ _ _ _ _ _ us hl => match us, hl with | [_, _, _], _ => rfl, F.kp⟩⟩
theorem ok__law_whole {P : Program} {w : World} {K : PySem.W.Frag} {mg : Str → Option Value} {base : Heap} {f : Addr} {fd : FuncData} {T : List (Addr × Str)}  (F : FunD K "_law_whole" "_law_whole" (defArgs s__law_whole) (defBody s__law_whole) (defScope s__law_whole) [] [] f fd) (hm : mg "_law_whole" = some (.ref f)) (m_isinstance : mg "isinstance" = none) (m_int : mg "int" = none) (m_bool : mg "bool" = none) : Def T P w K mg base CX0 1 "_law_whole" [] 1 S__law_whole :=
  ⟨⟨f, fd, ["_law_found"], hm, def_run F sc__law_whole rfl (by decide) t__law_whole (fun cdv A outer s H E B hr hgd => b__law_whole m_isinstance m_int m_bool hr hgd) r__law_whole, F.bindsN fun _ _ _ _ _ _ us hl => match us, hl with | [_], _ => rfl, F.kp⟩⟩
theorem ok__law_wholes {P : Program} {w : World} {K : PySem.W.Frag} {mg : Str → Option Value} {base : Heap} {f : Addr} {fd : FuncData} {T : List (Addr × Str)}  (F : FunD K "_law_wholes" "_law_wholes" (defArgs s__law_wholes) (defBody s__law_wholes) (defScope s__law_wholes) [] [] f fd) (hm : mg "_law_wholes" = some (.ref f)) (m_isinstance : mg "isinstance" = none) (m_tuple : mg "tuple" = none) (d__law_whole : Def T P w K mg base CX0 1 "_law_whole" [] 1 S__law_whole) : Def T P w K mg base CX0 2 "_law_wholes" [] 1 S__law_wholes :=
  ⟨⟨f, fd, ["_law_found"], hm, def_run F sc__law_wholes rfl (by decide) t__law_wholes (fun cdv A outer s H E B hr hgd => b__law_wholes m_isinstance m_tuple d__law_whole hr hgd) r__law_wholes, F.bindsN fun _ _ _ _ _ _ us hl => match us, hl with | [_], _ => rfl, F.kp⟩⟩
theorem ok__law_word {P : Program} {w : World} {K : PySem.W.Frag} {mg : Str → Option Value} {base : Heap} {f : Addr} {fd : FuncData} {T : List (Addr × Str)}  (F : FunD K "_law_word" "_law_word" (defArgs s__law_word) (defBody s__law_word) (defScope s__law_word) [] [] f fd) (hm : mg "_law_word" = some (.ref f)) (m_isinstance : mg "isinstance" = none) (xl : ExL K mg LX) (m_ValueError : mg "ValueError" = none) : Def T P w K mg base CX0 1 "_law_word" [] 1 S__law_word :=
  ⟨⟨f, fd, ["_law_caught"], hm, def_run F sc__law_word rfl (by decide) t__law_word (fun cdv A outer s H E B hr hgd => b__law_word m_isinstance xl m_ValueError hr hgd) r__law_word, F.bindsN fun _ _ _ _ _ _ us hl => match us, hl with | [_], _ => rfl, F.kp⟩⟩
theorem ok__law_right {P : Program} {w : World} {K : PySem.W.Frag} {mg : Str → Option Value} {base : Heap} {f : Addr} {fd : FuncData} {T : List (Addr × Str)}  (F : FunD K "_law_right" "_law_right" (defArgs s__law_right) (defBody s__law_right) (defScope s__law_right) [] [] f fd) (hm : mg "_law_right" = some (.ref f)) (d_fewest : Def T P w K mg base CX0 5 "fewest" [] 2 (nxS S_fewest)) (m_isinstance : mg "isinstance" = none) (m_tuple : mg "tuple" = none) (m_len : mg "len" = none) (d__law_wholes : Def T P w K mg base CX0 2 "_law_wholes" [] 1 S__law_wholes) (d__law_rising : Def T P w K mg base CX0 1 "_law_rising" [] 2 S__law_rising) (d__law_covers : Def T P w K mg base CX0 2 "_law_covers" [] 3 S__law_covers) (d__law_parts : Def T P w K mg base CX0 2 "_law_parts" [] 3 S__law_parts) : Def T P w K mg base CX0 6 "_law_right" [] 2 S__law_right :=
  ⟨⟨f, fd, ["_law_book", "_law_loss_here"], hm, def_run F sc__law_right rfl (by decide) t__law_right (fun cdv A outer s H E B hr hgd => b__law_right d_fewest m_isinstance m_tuple m_len d__law_wholes d__law_rising d__law_covers d__law_parts hr hgd) r__law_right, F.bindsN fun _ _ _ _ _ _ us hl => match us, hl with | [_, _], _ => rfl, F.kp⟩⟩
theorem ok__law_refused {P : Program} {w : World} {K : PySem.W.Frag} {mg : Str → Option Value} {base : Heap} {f : Addr} {fd : FuncData} {T : List (Addr × Str)}  (F : FunD K "_law_refused" "_law_refused" (defArgs s__law_refused) (defBody s__law_refused) (defScope s__law_refused) [] [] f fd) (hm : mg "_law_refused" = some (.ref f)) (g_PointError : mg "PointError" = some (.ref (He.ga K "PointError"))) (xl : ExL K mg LX) (e_fewest : Def T P w K mg base (L2.CX P w) 5 "fewest" [] 2 S_fewest) (d__law_word : Def T P w K mg base CX0 1 "_law_word" [] 1 S__law_word) : Def T P w K mg base CX0 6 "_law_refused" [] 2 S__law_refused :=
  ⟨⟨f, fd, ["_law_book", "_law_loss_here"], hm, def_run0 F sc__law_refused rfl (by decide) t__law_refused (fun cdv A outer s H E B hr hgd => b__law_refused g_PointError xl e_fewest d__law_word hr hgd) r__law_refused, F.bindsN fun _ _ _ _ _ _ us hl => match us, hl with | [_, _], _ => rfl, F.kp⟩⟩
theorem ok_law {P : Program} {w : World} {K : PySem.W.Frag} {mg : Str → Option Value} {base : Heap} {f : Addr} {fd : FuncData} {T : List (Addr × Str)}  (F : FunD K "law" "law" (defArgs s_law) (defBody s_law) (defScope s_law) [] [] f fd) (m_range : mg "range" = none) (d__law_deck : Def T P w K mg base CX0 1 "_law_deck" [] 2 S__law_deck) (d__law_points : Def T P w K mg base CX0 4 "_law_points" [0] 3 S__law_points) (d__law_loss : Def T P w K mg base CX0 3 "_law_loss" [0] 2 S__law_loss) (d__law_right : Def T P w K mg base CX0 6 "_law_right" [] 2 S__law_right) (d__law_no_loss : Def T P w K mg base CX0 3 "_law_no_loss" [0] 1 S__law_no_loss) (d__law_next : Def T P w K mg base CX0 2 "_law_next" [0] 2 S__law_next) (d__law_refused : Def T P w K mg base CX0 6 "_law_refused" [] 2 S__law_refused) : FnG P w K mg base CX0 7 f fd ["_law_script"] (spV T K mg [] 1 (lawS 63)) := def_run F sc_law rfl (by decide) t_law (fun cdv A outer s H E B hr hgd => b_law m_range d__law_deck d__law_points d__law_loss d__law_right d__law_no_loss d__law_next d__law_refused hr hgd) r_law
theorem factsL {P : Program} {w : World} {K : PySem.W.Frag} {h : Heap} {mg : Str → Option Value} {f : Addr} {T : List (Addr × Str)} (X : K.In h) (G : h.Ns mainGlobals mg) (hfa : mg ("law" : Str) = some (.ref f)) (c : He.SaysD faL fnL K) (cx : exB LX K = true) (hm_stair_of : ((He.cT K ("stair_of", none)).2, ("stair_of" ++ ".<locals>." ++ "<lambda>" : Str)) ∈ T) (hu_stair_of : ∀ t ∈ T, t.1 = (He.cT K ("stair_of", none)).2 → t.2 = ("stair_of" ++ ".<locals>." ++ "<lambda>" : Str)) :
    ∃ fd : FuncData, (∀ (s : Shared) (v : Value), BindsTo s fd ⟨[v], []⟩ [("_law_script", v)]) ∧ ∀ base : Heap, K.In base → base.Ns mainGlobals mg → (∀ p ∈ tfL.map (He.cT K), LamX.TabB base mg p.1 p.2) → FnG P w K mg base CX0 7 f fd ["_law_script"] (spV T K mg [] 1 (lawS 63)) := by
  obtain ⟨fd_is_whole, F_is_whole⟩ := c.def_ 0 (d := D_is_whole) rfl
  obtain ⟨fd_is_within, F_is_within⟩ := c.def_ 1 (d := D_is_within) rfl
  obtain ⟨fd_is_over, F_is_over⟩ := c.def_ 2 (d := D_is_over) rfl
  obtain ⟨fd_does_beat, F_does_beat⟩ := c.def_ 3 (d := D_does_beat) rfl
  obtain ⟨fd_is_unbeaten, F_is_unbeaten⟩ := c.def_ 4 (d := D_is_unbeaten) rfl
  obtain ⟨fd_need_loss, F_need_loss⟩ := c.def_ 5 (d := D_need_loss) rfl
  obtain ⟨fd_need_two, F_need_two⟩ := c.def_ 6 (d := D_need_two) rfl
  obtain ⟨fd_does_stand, F_does_stand⟩ := c.def_ 7 (d := D_does_stand) rfl
  obtain ⟨fd_stair_of, F_stair_of⟩ := c.def_ 8 (d := D_stair_of) rfl
  obtain ⟨fd_last_for, F_last_for⟩ := c.def_ 9 (d := D_last_for) rfl
  obtain ⟨fd_gone_along, F_gone_along⟩ := c.def_ 10 (d := D_gone_along) rfl
  obtain ⟨fd_fewest, F_fewest⟩ := c.def_ 11 (d := D_fewest) rfl
  obtain ⟨fd__law_mix, F__law_mix⟩ := c.def_ 12 (d := D__law_mix) rfl
  obtain ⟨fd__law_deck, F__law_deck⟩ := c.def_ 13 (d := D__law_deck) rfl
  obtain ⟨fd__law_next, F__law_next⟩ := c.def_ 14 (d := D__law_next) rfl
  obtain ⟨fd__law_number, F__law_number⟩ := c.def_ 15 (d := D__law_number) rfl
  obtain ⟨fd__law_points, F__law_points⟩ := c.def_ 16 (d := D__law_points) rfl
  obtain ⟨fd__law_loss, F__law_loss⟩ := c.def_ 17 (d := D__law_loss) rfl
  obtain ⟨fd__law_no_loss, F__law_no_loss⟩ := c.def_ 18 (d := D__law_no_loss) rfl
  obtain ⟨fd__law_stands, F__law_stands⟩ := c.def_ 19 (d := D__law_stands) rfl
  obtain ⟨fd__law_covers, F__law_covers⟩ := c.def_ 20 (d := D__law_covers) rfl
  obtain ⟨fd__law_rising, F__law_rising⟩ := c.def_ 21 (d := D__law_rising) rfl
  obtain ⟨fd__law_parts, F__law_parts⟩ := c.def_ 22 (d := D__law_parts) rfl
  obtain ⟨fd__law_whole, F__law_whole⟩ := c.def_ 23 (d := D__law_whole) rfl
  obtain ⟨fd__law_wholes, F__law_wholes⟩ := c.def_ 24 (d := D__law_wholes) rfl
  obtain ⟨fd__law_word, F__law_word⟩ := c.def_ 25 (d := D__law_word) rfl
  obtain ⟨fd__law_right, F__law_right⟩ := c.def_ 26 (d := D__law_right) rfl
  obtain ⟨fd__law_refused, F__law_refused⟩ := c.def_ 27 (d := D__law_refused) rfl
  obtain ⟨fd_law, F_law⟩ := c.def_ 28 (d := D_law) rfl
  have m_isinstance := He.free_ok X G (c.fact 29 (f := .free "isinstance") rfl)
  have m_int := He.free_ok X G (c.fact 30 (f := .free "int") rfl)
  have m_bool := He.free_ok X G (c.fact 31 (f := .free "bool") rfl)
  have m_all := He.free_ok X G (c.fact 32 (f := .free "all") rfl)
  have m_zip := He.free_ok X G (c.fact 33 (f := .free "zip") rfl)
  have m_any := He.free_ok X G (c.fact 34 (f := .free "any") rfl)
  have m_range := He.free_ok X G (c.fact 35 (f := .free "range") rfl)
  have m_len := He.free_ok X G (c.fact 36 (f := .free "len") rfl)
  have m_sorted := He.free_ok X G (c.fact 37 (f := .free "sorted") rfl)
  have m_enumerate := He.free_ok X G (c.fact 38 (f := .free "enumerate") rfl)
  have m_tuple := He.free_ok X G (c.fact 39 (f := .free "tuple") rfl)
  have m_sum := He.free_ok X G (c.fact 40 (f := .free "sum") rfl)
  have m_max := He.free_ok X G (c.fact 41 (f := .free "max") rfl)
  have m_abs := He.free_ok X G (c.fact 42 (f := .free "abs") rfl)
  have m_min := He.free_ok X G (c.fact 43 (f := .free "min") rfl)
  have m_ValueError := He.free_ok X G (c.fact 44 (f := .free "ValueError") rfl)
  have c_MOST_LOSS := He.int_ok X G (c.fact 45 (f := .int "MOST_LOSS" 2000000000) rfl)
  have xl := exL_of X G cx
  have x_NoLoss : ExcG K mg "NoLoss" := excG_of (xl.glo _ (by decide +kernel)) (c.fact 46 (f := .exc "NoLoss") rfl)
  have x_NoMeasures : ExcG K mg "NoMeasures" := excG_of (xl.glo _ (by decide +kernel)) (c.fact 47 (f := .exc "NoMeasures") rfl)
  have g_PointError := He.glo_ok X G (c.fact 48 (f := .glo "PointError") rfl)
  have e := hfa.symm.trans (He.glo_ok X G (c.fact 28 (f := .glo "law") rfl))
  cases e
  refine ⟨fd_law, fun s v => FunD.bindsA (ps := ["_law_script"]) F_law (fun _ _ _ _ _ _ us hl => match us, hl with | [_], _ => rfl) s [v] rfl, fun base _ _ TBS => ?_⟩
  have lam_stair_of : ∀ cdv, CodeV K (He.ga K "stair_of") "stair_of" cdv → LamC base mg T cdv ("stair_of" ++ ".<locals>." ++ "<lambda>") := fun cdv hc => lamC_of (p := ("stair_of", none)) hc rfl (TBS _ (List.mem_map.mpr ⟨("stair_of", none), by simp, rfl⟩)) hm_stair_of hu_stair_of
  have d_is_whole := ok_is_whole (P := P) (w := w) (mg := mg) (base := base) (T := T) F_is_whole (He.glo_ok X G (c.fact 0 (f := .glo "is_whole") rfl)) m_isinstance m_int m_bool
  have d_is_within := ok_is_within (P := P) (w := w) (mg := mg) (base := base) (T := T) F_is_within (He.glo_ok X G (c.fact 1 (f := .glo "is_within") rfl)) d_is_whole
  have d_is_over := ok_is_over (P := P) (w := w) (mg := mg) (base := base) (T := T) F_is_over (He.glo_ok X G (c.fact 2 (f := .glo "is_over") rfl)) m_all m_zip
  have d_does_beat := ok_does_beat (P := P) (w := w) (mg := mg) (base := base) (T := T) F_does_beat (He.glo_ok X G (c.fact 3 (f := .glo "does_beat") rfl)) d_is_over
  have d_is_unbeaten := ok_is_unbeaten (P := P) (w := w) (mg := mg) (base := base) (T := T) F_is_unbeaten (He.glo_ok X G (c.fact 4 (f := .glo "is_unbeaten") rfl)) m_any d_does_beat
  have e_need_loss := ok_need_loss (P := P) (w := w) (mg := mg) (base := base) (T := T) F_need_loss (He.glo_ok X G (c.fact 5 (f := .glo "need_loss") rfl)) d_is_within c_MOST_LOSS x_NoLoss
  have d_need_loss := e_need_loss.calm
  have e_need_two := ok_need_two (P := P) (w := w) (mg := mg) (base := base) (T := T) F_need_two (He.glo_ok X G (c.fact 6 (f := .glo "need_two") rfl)) x_NoMeasures
  have d_need_two := e_need_two.calm
  have d_does_stand := ok_does_stand (P := P) (w := w) (mg := mg) (base := base) (T := T) F_does_stand (He.glo_ok X G (c.fact 7 (f := .glo "does_stand") rfl)) m_all m_zip
  have d_stair_of := ok_stair_of (P := P) (w := w) (mg := mg) (base := base) (T := T) F_stair_of (He.glo_ok X G (c.fact 8 (f := .glo "stair_of") rfl)) m_range m_len d_is_unbeaten m_sorted lam_stair_of
  have d_last_for := ok_last_for (P := P) (w := w) (mg := mg) (base := base) (T := T) F_last_for (He.glo_ok X G (c.fact 9 (f := .glo "last_for") rfl)) d_does_stand
  have d_gone_along := ok_gone_along (P := P) (w := w) (mg := mg) (base := base) (T := T) F_gone_along (He.glo_ok X G (c.fact 10 (f := .glo "gone_along") rfl)) m_enumerate d_does_stand d_last_for m_tuple m_sorted
  have e_fewest := ok_fewest (P := P) (w := w) (mg := mg) (base := base) (T := T) F_fewest (He.glo_ok X G (c.fact 11 (f := .glo "fewest") rfl)) e_need_two e_need_loss d_gone_along d_stair_of
  have d_fewest := e_fewest.calm
  have d__law_mix := ok__law_mix (P := P) (w := w) (mg := mg) (base := base) (T := T) F__law_mix (He.glo_ok X G (c.fact 12 (f := .glo "_law_mix") rfl)) 
  have d__law_deck := ok__law_deck (P := P) (w := w) (mg := mg) (base := base) (T := T) F__law_deck (He.glo_ok X G (c.fact 13 (f := .glo "_law_deck") rfl)) m_sum
  have d__law_next := ok__law_next (P := P) (w := w) (mg := mg) (base := base) (T := T) F__law_next (He.glo_ok X G (c.fact 14 (f := .glo "_law_next") rfl)) m_len d__law_mix
  have d__law_number := ok__law_number (P := P) (w := w) (mg := mg) (base := base) (T := T) F__law_number (He.glo_ok X G (c.fact 15 (f := .glo "_law_number") rfl)) d__law_next
  have d__law_points := ok__law_points (P := P) (w := w) (mg := mg) (base := base) (T := T) F__law_points (He.glo_ok X G (c.fact 16 (f := .glo "_law_points") rfl)) d__law_next m_range m_len m_tuple m_max d__law_number
  have d__law_loss := ok__law_loss (P := P) (w := w) (mg := mg) (base := base) (T := T) F__law_loss (He.glo_ok X G (c.fact 17 (f := .glo "_law_loss") rfl)) d__law_next m_len m_abs m_max m_min
  have d__law_no_loss := ok__law_no_loss (P := P) (w := w) (mg := mg) (base := base) (T := T) F__law_no_loss (He.glo_ok X G (c.fact 18 (f := .glo "_law_no_loss") rfl)) d__law_next
  have d__law_stands := ok__law_stands (P := P) (w := w) (mg := mg) (base := base) (T := T) F__law_stands (He.glo_ok X G (c.fact 19 (f := .glo "_law_stands") rfl)) m_zip
  have d__law_covers := ok__law_covers (P := P) (w := w) (mg := mg) (base := base) (T := T) F__law_covers (He.glo_ok X G (c.fact 20 (f := .glo "_law_covers") rfl)) d__law_stands
  have d__law_rising := ok__law_rising (P := P) (w := w) (mg := mg) (base := base) (T := T) F__law_rising (He.glo_ok X G (c.fact 21 (f := .glo "_law_rising") rfl)) m_enumerate
  have d__law_parts := ok__law_parts (P := P) (w := w) (mg := mg) (base := base) (T := T) F__law_parts (He.glo_ok X G (c.fact 22 (f := .glo "_law_parts") rfl)) d__law_stands m_len
  have d__law_whole := ok__law_whole (P := P) (w := w) (mg := mg) (base := base) (T := T) F__law_whole (He.glo_ok X G (c.fact 23 (f := .glo "_law_whole") rfl)) m_isinstance m_int m_bool
  have d__law_wholes := ok__law_wholes (P := P) (w := w) (mg := mg) (base := base) (T := T) F__law_wholes (He.glo_ok X G (c.fact 24 (f := .glo "_law_wholes") rfl)) m_isinstance m_tuple d__law_whole
  have d__law_word := ok__law_word (P := P) (w := w) (mg := mg) (base := base) (T := T) F__law_word (He.glo_ok X G (c.fact 25 (f := .glo "_law_word") rfl)) m_isinstance xl m_ValueError
  have d__law_right := ok__law_right (P := P) (w := w) (mg := mg) (base := base) (T := T) F__law_right (He.glo_ok X G (c.fact 26 (f := .glo "_law_right") rfl)) d_fewest m_isinstance m_tuple m_len d__law_wholes d__law_rising d__law_covers d__law_parts
  have d__law_refused := ok__law_refused (P := P) (w := w) (mg := mg) (base := base) (T := T) F__law_refused (He.glo_ok X G (c.fact 27 (f := .glo "_law_refused") rfl)) g_PointError xl e_fewest d__law_word
  exact ok_law F_law m_range d__law_deck d__law_points d__law_loss d__law_right d__law_no_loss d__law_next d__law_refused
end U
open PySem PySem.W PySem.Calls PyProof.Rows
theorem PySem.Challenge.cw_unbeaten_k68_least_lots_with_witnesses_holds : PySem.Challenge.rw_unbeaten_k68_least_lots_with_witnesses.Holds := by
  w_on; o_law
  refine HandSHeadRun.head_any (r := OpenLaw.row PySem.Challenge.rw_unbeaten_k68_least_lots_with_witnesses) (q := view (OpenLaw.row PySem.Challenge.rw_unbeaten_k68_least_lots_with_witnesses).prog [51]) (H := U.hkL) (ob := U.obL) (M := 30000) (loose := U.looseL) (d := HandSHeadRun.topDef (OpenLaw.row PySem.Challenge.rw_unbeaten_k68_least_lots_with_witnesses).prog 51) (kwd := []) U.obL_eq
    (by kernel_rfl) (fun s => by kernel_rfl) U.runL (by kernel_rfl) (by kernel_rfl) (by kernel_rfl) (by rfl) (by first | assumption | decide +kernel) (by decide +kernel) ⟨rfl, rfl, rfl, rfl, rfl, by decide +kernel⟩ ?hw ?hc
  case hw => w_witness2
  case hc =>
    refine DL.walk_ofGT (l := PySem.Challenge.rw_unbeaten_k68_least_lots_with_witnesses) (n := 63) (k := 7) (x := "_law_script") (lk := []) (CX := L2.CX0) rfl (by decide) (by kernel_rfl) ⟨rfl, by decide, by decide⟩ ?F (fun _ _ _ _ z => z)
    intro w mg fa h Y G hmg0
    obtain ⟨K, KX, c⟩ := Y
    have hmg : mg ("law" : PySem.Str) = some (.ref fa) := by
      have e : (HandSHeadRun.topDef (OpenLaw.row PySem.Challenge.rw_unbeaten_k68_least_lots_with_witnesses).prog 51).name = ("law" : PySem.Str) := by kernel_rfl
      rw [← e]
      exact hmg0
    obtain ⟨fd, hb, hF⟩ := U.factsL (T := [((He.cT K ("stair_of", none)).2, ("stair_of" ++ ".<locals>." ++ "<lambda>" : PySem.Str))]) (P := (PySem.Challenge.rw_unbeaten_k68_least_lots_with_witnesses).prog) (w := w) KX G hmg c.t.d c.more (by simp) (fun t ht _ => by rw [List.mem_singleton] at ht; rw [ht])
    refine ⟨K, fd, U.tfL.map (He.cT K), _, KX, hb, fun p hp => ?_, fun p hp => ?_, fun p hp => ?_, fun t ht => ?_, hF⟩
    · obtain ⟨q, hq, rfl⟩ := List.mem_map.mp hp; exact c.empty q hq
    · obtain ⟨q, hq, rfl⟩ := List.mem_map.mp hp; exact c.out q hq
    · obtain ⟨q, hq, rfl⟩ := List.mem_map.mp hp; exact PySem.W.codeHd_of_K KX (c.hd q hq)
    · rw [List.mem_singleton] at ht; subst ht; exact ⟨_, List.mem_map.mpr ⟨_, List.mem_cons_self, rfl⟩, rfl⟩
