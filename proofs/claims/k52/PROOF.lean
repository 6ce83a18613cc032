import PyProof.Rows.All
import Wide.All
import OpenK.AllK
import Wide.FinOn
import HandS.ForMost
import HandS.ForExc
import HandS.HeadHook1
import HandS.TupAny
import HandS.Deep
import HandS.Style
import HandS.Wide
import KE.DataEq
import KE.DataAny
import KE.DataMinMax
import KE.DataFind
import KE.DataIsa
import KE.Datum
import KE.DatumOrd
import HandS.Defaults
import KE.GoesEnum
import KE.GoesNew
import KE.GoesMore
import KE.GoesRev
import HandS.More
import HandS.Conv
import HandS.Text
import KE.SortData
import PyProof.ReprRoads
import HandS.HeadEnd
import HandS.HeadHook2
import HandS.FStrTup
import HandS.IsInst
import PyProof.IsiBase
import PyProof.IsInstanceH
import PyProof.IsiNone
import KE.KTupSum
import HandS.TupMul
import HandS.SortKw
import HandS.ExcOwn
import HandS.TryOnly
import HandS.ExcIs
import HandS.ExcValue
import KE.KSlice
import HandS.HotCalls
import HandS.TupLe
import KE.SortCalls
import HandS.Dict
import HandS.Rev
import HandS.SetFor
import HandS.Strs
import KE.KDictZip
import PyProof.ListNew
import HandS.NoneIn
import HandS.Head2
import HandS.Head3
import PySem.Challenge.RW_unbeaten_k52_no_leans_no_orders
set_option Elab.async false
set_option linter.all false
set_option maxRecDepth 100000
set_option maxHeartbeats 0
/-! The data layer, part 1: frozen data, owned lists and dicts, the relation of a data state to slots and heap. -/
namespace DL
open PySem PySem.Spec PyProof.Rows L2

/-- the def of the name x -/
def FnK (K : PySem.W.Frag) (x : Str) : Prop := ∃ o, K.lookup (He.ga K x) = some o ∧ o.cls = .type "function"
/-! what a value reads as, an empty dict, too; a def stands as a dict of its name -/
mutual
inductive Dq (K : PySem.W.Frag) (H : Hp) : V → PyData → Prop
  | non : Dq K H .non .none
  | bl (b : Bool) : Dq K H (.bl b) (.bool b)
  | int (i : Int) : Dq K H (.int i) (.int i)
  | str (x : Str) : Dq K H (.str x) (.str x)
  | lst {a : Addr} {xs : List V} {ds : List PyData} : SqL K H a xs → DqAll K H xs ds → Dq K H (.ref a) (.list ds)
  | tup {a : Addr} {xs : List V} {ds : List PyData} : SqT K H a xs → DqAll K H xs ds → Dq K H (.ref a) (.tuple ds)
  | dct {a : Addr} : H a = some (.dK []) → Dq K H (.ref a) (.dict [])
  | fnv {x : Str} : FnK K x → Dq K H (.ref (He.ga K x)) (.dict [(.str x, .none)])
  | xtp {a : Addr} {o : Obj} {xs : List V} {ds : List PyData} : H a = some (.frz o (.tup xs)) → o.dict = none → DqAll K H xs ds → Dq K H (.ref a) (.dict [(.none, .tuple ds)])
inductive DqAll (K : PySem.W.Frag) (H : Hp) : List V → List PyData → Prop
  | nil : DqAll K H [] []
  | cons {v : V} {vs : List V} {d : PyData} {ds : List PyData} : Dq K H v d → DqAll K H vs ds → DqAll K H (v :: vs) (d :: ds)
end
/-! no def within -/
mutual
def nd : PyData → Bool
  | .dict kvs => kvs.isEmpty
  | .list ds => ndA ds
  | .tuple ds => ndA ds
  | _ => true
def ndA : List PyData → Bool
  | [] => true
  | d :: ds => nd d && ndA ds
end
theorem ndA_of : ∀ {ds : List PyData}, (∀ d ∈ ds, nd d = true) → ndA ds = true
  | [], _ => rfl
  | d :: ds, h => by rw [ndA, h d List.mem_cons_self, ndA_of fun x hx => h x (List.mem_cons_of_mem _ hx)]; rfl
section
variable {X : Cx} {pins : List (Addr × Obj)} {σ : L2.St} {H : Hp} {s : Shared}
theorem dct_ob (I : Inv X pins σ H s) {a : Addr} (h : H a = some (.dK [])) : Reads s.heap (.ref a) (.dict []) [a] ∧ a ≠ sysModules := by
  obtain ⟨_, hs, vs, kv, o, es, ep, ho, hx, hd, _, pr, _⟩ := I.hok a _ h
  have hv : vs = [] := by cases kv; rfl
  subst hv
  have he : es.toList = [] := by
    cases e : es.toList with
    | nil => rfl
    | cons x l => rw [e] at pr; cases pr
  exact ⟨Reads.dict (as := []) (bs := []) ho hx.1 hd (by rw [he]; exact .nil) (by rw [he]; exact .nil), fun z => by rw [z] at hs; simp at hs⟩
mutual
theorem Dq.reads (I : Inv X pins σ H s) : ∀ (d : PyData) (v : V) (u : Value), nd d = true → Dq X.K H v d → RelV v u → ∃ as, Reads s.heap u d as
  | .none, _, _, _, .non, r => by cases r; exact ⟨_, .none⟩
  | .bool b, _, _, _, .bl _, r => by cases r; exact ⟨_, .bool b⟩
  | .int i, _, _, _, .int _, r => by obtain ⟨t, rfl⟩ := r; exact ⟨_, .int i t⟩
  | .str x, _, _, _, .str _, r => by obtain ⟨t, rfl⟩ := r; exact ⟨_, .str x t⟩
  | .list ds, _, _, n, .lst hs ha, r => by
    cases r
    rw [nd] at n
    obtain ⟨its, rv, ⟨o, _, ho, hc, _, hd⟩, _⟩ := I.list hs
    obtain ⟨as, hr⟩ := Dq.readsAll I ds _ its n ha rv
    exact ⟨_, .list ho hc hd hr⟩
  | .tuple ds, _, _, n, .tup hs ha, r => by
    cases r
    rw [nd] at n
    obtain ⟨its, rv, ⟨o, ho, hc, _, hd⟩, _⟩ := I.tuple hs
    obtain ⟨as, hr⟩ := Dq.readsAll I ds _ its n ha rv
    exact ⟨_, .tuple ho hc hd hr⟩
  | .dict _, _, _, _, .dct h, r => by cases r; exact ⟨_, (dct_ob I h).1⟩
  | .dict _, _, _, n, .fnv h, r => by simp [nd] at n
  | .dict _, _, _, n, .xtp _ _ _, r => by simp [nd] at n
theorem Dq.readsAll (I : Inv X pins σ H s) : ∀ (ds : List PyData) (vs : List V) (us : List Value), ndA ds = true → DqAll X.K H vs ds → Vals vs us → ∃ as, ReadsAll s.heap us ds as
  | [], _, _, _, .nil, r => by cases r; exact ⟨_, .nil⟩
  | d :: ds, _, _, n, .cons h1 h2, r => by
    rw [ndA, Bool.and_eq_true] at n
    cases r with
    | cons r1 r2 =>
      obtain ⟨as, q1⟩ := Dq.reads I d _ _ n.1 h1 r1
      obtain ⟨bs, q2⟩ := Dq.readsAll I ds _ _ n.2 h2 r2
      exact ⟨_, .cons q1 q2⟩
end
end
mutual
inductive Rp (K : PySem.W.Frag) (F : Addr → Prop) (H : Hp) : V → PyData → Prop
  | non : Rp K F H .non .none
  | bl (b : Bool) : Rp K F H (.bl b) (.bool b)
  | int (i : Int) : Rp K F H (.int i) (.int i)
  | str (x : Str) : Rp K F H (.str x) (.str x)
  | lst {a : Addr} {xs : List V} {ds : List PyData} : F a → H a = some (.lst xs) → RpA K F H xs ds → Rp K F H (.ref a) (.list ds)
  | tup {a : Addr} {xs : List V} {ds : List PyData} : SqT K H a xs → RpA K F H xs ds → Rp K F H (.ref a) (.tuple ds)
  | dct {a : Addr} : F a → H a = some (.dK []) → Rp K F H (.ref a) (.dict [])
  | fnv {x : Str} : FnK K x → Rp K F H (.ref (He.ga K x)) (.dict [(.str x, .none)])
  | xtp {a : Addr} {o : Obj} {xs : List V} {ds : List PyData} : H a = some (.frz o (.tup xs)) → o.dict = none → RpA K F H xs ds → Rp K F H (.ref a) (.dict [(.none, .tuple ds)])
inductive RpA (K : PySem.W.Frag) (F : Addr → Prop) (H : Hp) : List V → List PyData → Prop
  | nil : RpA K F H [] []
  | cons {v : V} {vs : List V} {d : PyData} {ds : List PyData} : Rp K F H v d → RpA K F H vs ds → RpA K F H (v :: vs) (d :: ds)
end

def Stl : HO → Prop
  | .tup _ => True
  | .frz _ _ => True
  | .ext _ => True
  | _ => False
abbrev Kp (F : Addr → Prop) (H H' : Hp) : Prop := ∀ a o, H a = some o → F a ∨ Stl o → H' a = some o

section
variable {K : PySem.W.Frag} {F F' : Addr → Prop} {H H' : Hp}
theorem sqT_keep {a : Addr} {xs : List V} (hH : Kp F H H') (h : SqT K H a xs) : SqT K H' a xs := by
  rcases h with (h | ⟨o, h⟩) | h
  · exact .inl (.inl (hH _ _ h (.inr trivial)))
  · exact .inl (.inr ⟨o, hH _ _ h (.inr trivial)⟩)
  · exact .inr h
mutual
theorem Rp.keep (hF : ∀ a, F a → F' a) (hH : Kp F H H') : ∀ (d : PyData) (v : V), Rp K F H v d → Rp K F' H' v d
  | .none, _, .non => .non
  | .bool _, _, .bl b => .bl b
  | .int _, _, .int i => .int i
  | .str _, _, .str x => .str x
  | .list ds, _, .lst f h r => .lst (hF _ f) (hH _ _ h (.inl f)) (RpA.keep hF hH ds _ r)
  | .tuple ds, _, .tup h r => .tup (sqT_keep hH h) (RpA.keep hF hH ds _ r)
  | .dict _, _, .dct f h => .dct (hF _ f) (hH _ _ h (.inl f))
  | .dict _, _, .fnv h => .fnv h
  | .dict _, _, .xtp h e r => .xtp (hH _ _ h (.inr trivial)) e (RpA.keep hF hH _ _ r)
theorem RpA.keep (hF : ∀ a, F a → F' a) (hH : Kp F H H') : ∀ (ds : List PyData) (vs : List V), RpA K F H vs ds → RpA K F' H' vs ds
  | [], _, .nil => .nil
  | d :: ds, _, .cons r q => .cons (Rp.keep hF hH d _ r) (RpA.keep hF hH ds _ q)
end
mutual
theorem Rp.dp : ∀ (d : PyData) (v : V), Rp K F H v d → Dq K H v d
  | .none, _, .non => .non
  | .bool _, _, .bl b => .bl b
  | .int _, _, .int i => .int i
  | .str _, _, .str x => .str x
  | .list ds, _, .lst f h r => .lst (SqL.of h) (RpA.dp ds _ r)
  | .tuple ds, _, .tup h r => .tup h (RpA.dp ds _ r)
  | .dict _, _, .dct _ h => .dct h
  | .dict _, _, .fnv h => .fnv h
  | .dict _, _, .xtp h e r => .xtp h e (RpA.dp _ _ r)
theorem RpA.dp : ∀ (ds : List PyData) (vs : List V), RpA K F H vs ds → DqAll K H vs ds
  | [], _, .nil => .nil
  | d :: ds, _, .cons r q => .cons (Rp.dp d _ r) (RpA.dp ds _ q)
end
/-! an exact tuple told as a plain one -/
mutual
def strip : PyData → PyData
  | .dict [(.none, .tuple ds)] => .tuple (stripA ds)
  | .tuple ds => .tuple (stripA ds)
  | .list ds => .list (stripA ds)
  | d => d
def stripA : List PyData → List PyData
  | [] => []
  | d :: ds => strip d :: stripA ds
end
mutual
theorem Rp.strip : ∀ (d : PyData) (v : V), Rp K F H v d → Rp K F H v (DL.strip d)
  | .none, _, .non => .non
  | .bool _, _, .bl b => .bl b
  | .int _, _, .int i => .int i
  | .str _, _, .str x => .str x
  | .list ds, _, .lst f h r => .lst f h (RpA.strip ds _ r)
  | .tuple ds, _, .tup h r => .tup h (RpA.strip ds _ r)
  | .dict _, _, .dct f h => .dct f h
  | .dict _, _, .fnv h => .fnv h
  | .dict _, _, .xtp h e r => .tup (.inl (.inr ⟨_, h⟩)) (RpA.strip _ _ r)
theorem RpA.strip : ∀ (ds : List PyData) (vs : List V), RpA K F H vs ds → RpA K F H vs (stripA ds)
  | [], _, .nil => .nil
  | d :: ds, _, .cons r q => .cons (Rp.strip d _ r) (RpA.strip ds _ q)
end
theorem RpA.length : ∀ {vs : List V} {ds : List PyData}, RpA K F H vs ds → vs.length = ds.length
  | _, _, .nil => rfl
  | _, _, .cons _ q => congrArg (· + 1) (RpA.length q)
theorem RpA.get : ∀ {vs : List V} {ds : List PyData} {i : Nat} {d : PyData}, RpA K F H vs ds → ds[i]? = some d → ∃ v, vs[i]? = some v ∧ Rp K F H v d
  | _, _, _, _, .nil, e => by simp at e
  | _, _, 0, _, .cons r _, e => by simp at e; subst e; exact ⟨_, rfl, r⟩
  | _, _, i + 1, x, .cons _ t, e => by
    obtain ⟨u, h1, h2⟩ := RpA.get (i := i) (d := x) t (by simpa using e)
    exact ⟨u, by simpa using h1, h2⟩
theorem RpA.append : ∀ {vs ws : List V} {ds es : List PyData}, RpA K F H vs ds → RpA K F H ws es → RpA K F H (vs ++ ws) (ds ++ es)
  | _, _, _, _, .nil, s => s
  | _, _, _, _, .cons r t, s => .cons r (RpA.append t s)
theorem RpA.one {v : V} {d : PyData} (r : Rp K F H v d) : RpA K F H [v] [d] := .cons r .nil
theorem RpA.set {v : V} {d : PyData} (r : Rp K F H v d) : ∀ {vs : List V} {ds : List PyData} (i : Nat), RpA K F H vs ds → RpA K F H (vs.set i v) (ds.set i d)
  | _, _, _, .nil => .nil
  | _, _, 0, .cons _ t => .cons r t
  | _, _, i + 1, .cons q t => .cons q (RpA.set r i t)
theorem RpA.take : ∀ {vs : List V} {ds : List PyData} (n : Nat), RpA K F H vs ds → RpA K F H (vs.take n) (ds.take n)
  | _, _, 0, _ => .nil
  | _, _, _ + 1, .nil => .nil
  | _, _, n + 1, .cons r t => .cons r (RpA.take n t)
theorem RpA.drop : ∀ {vs : List V} {ds : List PyData} (n : Nat), RpA K F H vs ds → RpA K F H (vs.drop n) (ds.drop n)
  | _, _, 0, r => r
  | _, _, _ + 1, .nil => .nil
  | _, _, n + 1, .cons r t => RpA.drop n t
theorem RpA.reverse : ∀ {vs : List V} {ds : List PyData}, RpA K F H vs ds → RpA K F H vs.reverse ds.reverse
  | _, _, .nil => .nil
  | _, _, .cons r t => by
    rw [List.reverse_cons, List.reverse_cons]
    exact RpA.append (RpA.reverse t) (.one r)
theorem RpA.ints : ∀ {ns : List Int} {vs : List V}, RpA K F H vs (ns.map PyData.int) → vs = ns.map V.int
  | [], _, .nil => rfl
  | n :: ns, _, .cons r t => by
    cases r
    rw [List.map_cons, RpA.ints t]
theorem RpA.ofInts : ∀ (ns : List Int), RpA K F H (ns.map V.int) (ns.map PyData.int)
  | [] => .nil
  | n :: ns => .cons (.int n) (RpA.ofInts ns)
theorem RpA.bools : ∀ {ns : List Bool} {vs : List V}, RpA K F H vs (ns.map PyData.bool) → vs = ns.map V.bl
  | [], _, .nil => rfl
  | n :: ns, _, .cons r t => by
    cases r
    rw [List.map_cons, RpA.bools t]
end

/-- an exception object, told by its class and its fields' dict -/
def ExT (cls : Value) (d : Option Addr) (a : Addr) : HO := .ext fun h => ∃ (oe : Obj) (vs : Array Value), h.get? a = some oe ∧ Zc cls d oe ∧ oe.data = .fields vs
/-! ### values and their owners -/
/-- further owned things: a list whose first thing is an owned list; a dict by tuples of keys -/
inductive Un where
  | nst (xs ds : List PyData)
  | dt (kvs : List (List Key × PyData))
inductive Vl where
  | fr (d : PyData)
  | ow (ds : List PyData)
  | dk (kvs : List (Key × PyData))
  | cst (v : V)
  | scr (ns : List Int)
  | exn (x : Str)
  | un (u : Un)
  | bor (i : Nat)
  | gone
/-- a slot's number, or a temp's -/
abbrev Ow := Sum Nat Nat
/-- the script: a frozen object, or one of the module's own -/
def ScrAt (K : PySem.W.Frag) (H : Hp) (a : Addr) (ns : List Int) : Prop := (∃ o, H a = some (.frz o (.lst (ns.map V.int)))) ∨
  ∃ (o : Obj) (its : Array Value) (n : Nat), K.lookup a = some o ∧ o.cls = .type "list" ∧ o.dict = none ∧ o.data = .seq its n ∧ its.size ≤ sizeLine ∧ Vals (ns.map V.int) its.toList
theorem ScrAt.sq {K : PySem.W.Frag} {H : Hp} {a : Addr} {ns : List Int} (h : ScrAt K H a ns) : SqL K H a (ns.map V.int) := h.elim (fun z => .inl (.inr z)) .inr
theorem ScrAt.keep {K : PySem.W.Frag} {F : Addr → Prop} {H H' : Hp} {a : Addr} {ns : List Int} (hH : Kp F H H') (h : ScrAt K H a ns) : ScrAt K H' a ns := h.elim (fun ⟨o, z⟩ => .inl ⟨o, hH _ _ z (.inr trivial)⟩) .inr
def RpK (K : PySem.W.Frag) (F : Addr → Prop) (H : Hp) : List (Key × V) → List (Key × PyData) → Prop := Paired fun p q => p.1 = q.1 ∧ Rp K F H p.2 q.2
def RpT (K : PySem.W.Frag) (F : Addr → Prop) (H : Hp) : List (List Key × V) → List (List Key × PyData) → Prop := Paired fun p q => p.1 = q.1 ∧ Rp K F H p.2 q.2
def UR (K : PySem.W.Frag) (F : Addr → Prop) (O : Addr → Option Ow) (H : Hp) (w : Ow) (v : V) : Un → Prop
  | .nst xs ds => ∃ a b vs ws, v = .ref a ∧ a ≠ b ∧ O a = some w ∧ H a = some (.lst (.ref b :: vs)) ∧ O b = some w ∧ H b = some (.lst ws) ∧ RpA K F H ws xs ∧ RpA K F H vs ds
  | .dt kvs => ∃ a vs, v = .ref a ∧ O a = some w ∧ H a = some (.dT vs) ∧ RpT K F H vs kvs
def VR (K : PySem.W.Frag) (F : Addr → Prop) (O : Addr → Option Ow) (H : Hp) (w : Ow) (v : V) : Vl → Prop
  | .fr d => Rp K F H v d
  | .ow ds => ∃ a vs, v = .ref a ∧ O a = some w ∧ H a = some (.lst vs) ∧ RpA K F H vs ds
  | .dk kvs => ∃ a vs, v = .ref a ∧ O a = some w ∧ H a = some (.dK vs) ∧ RpK K F H vs kvs
  | .cst c => v = c
  | .scr ns => ∃ a, v = .ref a ∧ ScrAt K H a ns
  | .exn x => ∃ a, v = .ref a ∧ H a = some (ExT (.ref (He.ga K x)) none a)
  | .un u => UR K F O H w v u
  | .bor _ => False
  | .gone => True
section
variable {K : PySem.W.Frag} {F F' : Addr → Prop} {O O' : Addr → Option Ow} {H H' : Hp} {w w' : Ow} {v : V}
theorem VR.keep (hF : ∀ a, F a → F' a) (hH : Kp F H H') (hO : ∀ a, O a = some w → O' a = some w') (hW : ∀ a o, O a = some w → H a = some o → H' a = some o) : ∀ {d : Vl}, VR K F O H w v d → VR K F' O' H' w' v d
  | .fr d, h => Rp.keep hF hH d v h
  | .ow ds, ⟨a, vs, e, o, h, r⟩ => ⟨a, vs, e, hO a o, hW a _ o h, r.keep hF hH⟩
  | .dk kvs, ⟨a, vs, e, o, h, r⟩ => ⟨a, vs, e, hO a o, hW a _ o h, Paired.mapP r fun p q z => ⟨z.1, Rp.keep hF hH _ _ z.2⟩⟩
  | .cst c, h => h
  | .scr ns, ⟨a, e, h⟩ => ⟨a, e, h.keep hH⟩
  | .exn x, ⟨a, e, h⟩ => ⟨a, e, hH _ _ h (.inr trivial)⟩
  | .un (.nst xs ds), ⟨a, b, vs, ws, e, n, o1, h1, o2, h2, r1, r2⟩ => ⟨a, b, vs, ws, e, n, hO a o1, hW a _ o1 h1, hO b o2, hW b _ o2 h2, r1.keep hF hH, r2.keep hF hH⟩
  | .un (.dt kvs), ⟨a, vs, e, o, h, r⟩ => ⟨a, vs, e, hO a o, hW a _ o h, Paired.mapP r fun p q z => ⟨z.1, Rp.keep hF hH _ _ z.2⟩⟩
  | .bor _, h => h
  | .gone, h => h
end

def TmR (K : PySem.W.Frag) (F : Addr → Prop) (O : Addr → Option Ow) (H : Hp) (σ : L2.St) : List Vl → List V → Prop
  | [], [] => True
  | d :: tm, v :: tv => ((∃ i, d = .bor i ∧ σ[i]? = some (some v)) ∨ VR K F O H (.inr tm.length) v d) ∧ TmR K F O H σ tm tv
  | _, _ => False
/-- what stood at the entry; the addresses that the def may change; those that are frozen -/
structure Ba where
  H0 : Hp
  A0 : Addr → Prop
  F0 : Addr → Prop
  L0 : List (Nat × V)
structure RelX (K : PySem.W.Frag) (B : Ba) (lv : List (Nat × V)) (st tm : List Vl) (σ : L2.St) (tv : List V) (H : Hp) (F : Addr → Prop) (O : Addr → Option Ow) : Prop where
  len : st.length = σ.length
  sl : ∀ i d, st[i]? = some d → d = .gone ∨ ∃ v, σ[i]? = some (some v) ∧ VR K F O H (.inl i) v d
  tp : TmR K F O H σ tm tv
  fo : ∀ a, F a → O a = none
  oh : ∀ a w, O a = some w → ∃ o, H a = some o ∧ ¬ Stl o
  fh : ∀ a, F a → H a ≠ none
  fr : ∀ a o, B.H0 a = some o → ¬ B.A0 a → H a = some o
  mi : ∀ a w, O a = some w → B.A0 a ∨ B.H0 a = none
  f0 : ∀ a, B.F0 a → F a
  f1 : ∀ a, F a → B.F0 a ∨ B.H0 a = none ∨ B.A0 a
  lk : ∀ p ∈ lv, σ[p.1]? = some (some p.2)
def Rel (K : PySem.W.Frag) (B : Ba) (lv : List (Nat × V)) (st tm : List Vl) (σ : L2.St) (tv : List V) (H : Hp) : Prop := ∃ F O, RelX K B lv st tm σ tv H F O

section
variable {K : PySem.W.Frag} {B : Ba} {lv : List (Nat × V)} {st tm : List Vl} {σ : L2.St} {tv : List V} {H H' : Hp} {F F' : Addr → Prop} {O O' : Addr → Option Ow} {v : V} {d : Vl} {a p : Addr}
theorem TmR.keep (hF : ∀ a, F a → F' a) (hH : Kp F H H') (σ' : L2.St) : ∀ {tm : List Vl} {tv : List V}, (hO : ∀ a n, n < tm.length → O a = some (.inr n) → O' a = some (.inr n)) → (hW : ∀ a o n, n < tm.length → O a = some (.inr n) → H a = some o → H' a = some o) →
    (hb : ∀ i v, Vl.bor i ∈ tm → σ[i]? = some (some v) → σ'[i]? = some (some v)) → TmR K F O H σ tm tv → TmR K F' O' H' σ' tm tv
  | [], [], _, _, _, _ => trivial
  | d :: tm, v :: tv, hO, hW, hb, ⟨h, r⟩ => by
    refine ⟨?_, TmR.keep hF hH σ' (fun a n hn => hO a n (Nat.lt_succ_of_lt hn)) (fun a o n hn => hW a o n (Nat.lt_succ_of_lt hn)) (fun i v hi => hb i v (List.mem_cons_of_mem _ hi)) r⟩
    rcases h with ⟨i, e, h⟩ | h
    · exact .inl ⟨i, e, hb i v (by rw [e]; exact List.mem_cons_self) h⟩
    · exact .inr (VR.keep hF hH (fun a => hO a _ (Nat.lt_succ_self _)) (fun a o => hW a o _ (Nat.lt_succ_self _)) h)
  | [], _ :: _, _, _, _, h => h.elim
  | _ :: _, [], _, _, _, h => h.elim
/-- all that was there stays; owners stay -/
theorem RelX.grow (R : RelX K B lv st tm σ tv H F O) (hH : ∀ a o, H a = some o → H' a = some o) (hO : ∀ a w, O a = some w → O' a = some w)
    (fo : ∀ a, F a → O' a = none) (oh : ∀ a w, O' a = some w → ∃ o, H' a = some o ∧ ¬ Stl o) (mi : ∀ a w, O' a = some w → B.A0 a ∨ B.H0 a = none) : RelX K B lv st tm σ tv H' F O' := by
  refine ⟨R.len, fun i d e => ?_, R.tp.keep (fun _ h => h) (fun a o h _ => hH a o h) σ (fun a n _ => hO a _) (fun a o n _ _ => hH a o) (fun _ _ _ h => h), fo, oh, fun a f => ?_, fun a o h n => hH a o (R.fr a o h n), mi, R.f0, R.f1, R.lk⟩
  · rcases R.sl i d e with h | ⟨v, h1, h2⟩
    · exact .inl h
    · exact .inr ⟨v, h1, h2.keep (fun _ h => h) (fun a o h _ => hH a o h) (fun a => hO a _) (fun a o _ => hH a o)⟩
  · intro z
    cases e : H a with
    | none => exact R.fh a f e
    | some o => rw [hH a o e] at z; cases z
theorem RelX.push (R : RelX K B lv st tm σ tv H F O) (h : VR K F O H (.inr tm.length) v d) : RelX K B lv st (d :: tm) σ (v :: tv) H F O :=
  ⟨R.len, R.sl, ⟨.inr h, R.tp⟩, R.fo, R.oh, R.fh, R.fr, R.mi, R.f0, R.f1, R.lk⟩
theorem RelX.pop (R : RelX K B lv st (d :: tm) σ (v :: tv) H F O) : RelX K B lv st tm σ tv H F O :=
  ⟨R.len, R.sl, R.tp.2, R.fo, R.oh, R.fh, R.fr, R.mi, R.f0, R.f1, R.lk⟩
theorem Rel.pop (R : Rel K B lv st (d :: tm) σ (v :: tv) H) : Rel K B lv st tm σ tv H := let ⟨F, O, R⟩ := R; ⟨F, O, R.pop⟩
theorem Rel.popAll : ∀ {ds : List Vl} {vs : List V}, ds.length = vs.length → Rel K B lv st (ds ++ tm) σ (vs ++ tv) H → Rel K B lv st tm σ tv H
  | [], [], _, R => R
  | _ :: ds, _ :: vs, e, R => Rel.popAll (Nat.succ.inj e) (Rel.pop R)
  | [], _ :: _, e, _ => by cases e
  | _ :: _, [], e, _ => by cases e
theorem Rel.push_fr {x : PyData} (R : Rel K B lv st tm σ tv H) (h : ∀ F, Rp K F H v x) : Rel K B lv st (.fr x :: tm) σ (v :: tv) H := let ⟨F, O, R⟩ := R; ⟨F, O, R.push (h F)⟩
theorem Rel.int (R : Rel K B lv st tm σ tv H) (i : Int) : Rel K B lv st (.fr (.int i) :: tm) σ (.int i :: tv) H := R.push_fr fun _ => .int i
theorem Rel.bl (R : Rel K B lv st tm σ tv H) (i : Bool) : Rel K B lv st (.fr (.bool i) :: tm) σ (.bl i :: tv) H := R.push_fr fun _ => .bl i
theorem Rel.str (R : Rel K B lv st tm σ tv H) (i : Str) : Rel K B lv st (.fr (.str i) :: tm) σ (.str i :: tv) H := R.push_fr fun _ => .str i
theorem Rel.non (R : Rel K B lv st tm σ tv H) : Rel K B lv st (.fr .none :: tm) σ (.non :: tv) H := R.push_fr fun _ => .non
/-! ### what stands at a temp -/
theorem RelX.top (R : RelX K B lv st (d :: tm) σ (v :: tv) H F O) (h : ∀ i, d ≠ .bor i) : VR K F O H (.inr tm.length) v d := by
  rcases R.tp.1 with ⟨i, e, _⟩ | h'
  · exact absurd e (h i)
  · exact h'
theorem Rel.isInt {i : Int} (R : Rel K B lv st (.fr (.int i) :: tm) σ (v :: tv) H) : v = .int i := by
  obtain ⟨F, O, R⟩ := R
  have h : Rp K F H v (.int i) := R.top (fun i z => by cases z)
  cases h; rfl
theorem Rel.isBl {i : Bool} (R : Rel K B lv st (.fr (.bool i) :: tm) σ (v :: tv) H) : v = .bl i := by
  obtain ⟨F, O, R⟩ := R
  have h : Rp K F H v (.bool i) := R.top (fun i z => by cases z)
  cases h; rfl
/-- what a value is, as data -/
def pyO (st : List Vl) : Vl → Option PyData
  | .fr d => some d
  | .ow ds => some (.list ds)
  | .scr ns => some (.list (ns.map .int))
  | .bor i => match st[i]? with
    | some (.fr d) => some d
    | some (.ow ds) => some (.list ds)
    | some (.scr ns) => some (.list (ns.map .int))
    | _ => none
  | _ => none
/-- .. but the script -/
def pyT (st : List Vl) : Vl → Option PyData
  | .fr d => some d
  | .ow ds => some (.list ds)
  | .bor i => match st[i]? with
    | some (.fr d) => some d
    | some (.ow ds) => some (.list ds)
    | _ => none
  | _ => none
theorem pyO_of_pyT {st : List Vl} {d : Vl} {x : PyData} (e : pyT st d = some x) : pyO st d = some x := by
  cases d with
  | fr _ => exact e
  | ow _ => exact e
  | bor i =>
    unfold pyT at e
    unfold pyO
    dsimp only at e ⊢
    cases q : st[i]? with
    | none => rw [q] at e; cases e
    | some y => rw [q] at e; cases y <;> first | exact e | cases e
  | dk _ => cases e
  | cst _ => cases e
  | scr _ => cases e
  | exn _ => cases e
  | un _ => cases e
  | gone => cases e
theorem vr_view {w : Ow} {x : PyData} (h : VR K F O H w v d) (e : pyT st d = some x) : Rp K F H v x ∨ ∃ a vs ds, x = .list ds ∧ v = .ref a ∧ O a = some w ∧ H a = some (.lst vs) ∧ RpA K F H vs ds := by
  cases d with
  | fr d => cases e; exact .inl h
  | ow ds => cases e; obtain ⟨a, vs, e1, e2, e3, e4⟩ := h; exact .inr ⟨a, vs, ds, rfl, e1, e2, e3, e4⟩
  | dk _ => cases e
  | cst _ => cases e
  | scr _ => cases e
  | exn _ => cases e
  | un _ => cases e
  | gone => cases e
  | bor _ => exact False.elim h
theorem RelX.view {x : PyData} (R : RelX K B lv st (d :: tm) σ (v :: tv) H F O) (e : pyT st d = some x) : Rp K F H v x ∨ ∃ a vs ds w, x = .list ds ∧ v = .ref a ∧ O a = some w ∧ H a = some (.lst vs) ∧ RpA K F H vs ds := by
  rcases R.tp.1 with ⟨i, e1, h1⟩ | h
  · subst e1
    unfold pyT at e
    dsimp only at e
    cases q : st[i]? with
    | none => rw [q] at e; cases e
    | some y =>
      rw [q] at e
      have e' : pyT st y = some x := by
        cases y <;> first | exact e | cases e
      rcases R.sl i y q with z | ⟨v', h2, h3⟩
      · subst z; cases e
      · rw [h1] at h2
        cases h2
        rcases vr_view h3 e' with z | ⟨a, vs, ds, z1, z2, z3, z4⟩
        · exact .inl z
        · exact .inr ⟨a, vs, ds, _, z1, z2, z3, z4⟩
  · rcases vr_view h e with z | ⟨a, vs, ds, z1, z2, z3, z4⟩
    · exact .inl z
    · exact .inr ⟨a, vs, ds, _, z1, z2, z3, z4⟩
/-- .. or the script -/
theorem RelX.viewO {x : PyData} (R : RelX K B lv st (d :: tm) σ (v :: tv) H F O) (e : pyO st d = some x) : pyT st d = some x ∨ ∃ (a : Addr) (ns : List Int), x = .list (ns.map PyData.int) ∧ v = .ref a ∧ SqL K H a (ns.map V.int) := by
  have scr : ∀ (w : Ow) ns, VR K F O H w v (.scr ns) → some (PyData.list (ns.map .int)) = some x → ∃ (a : Addr) (ns : List Int), x = .list (ns.map PyData.int) ∧ v = .ref a ∧ SqL K H a (ns.map V.int) := fun w ns ⟨a, h1, h3⟩ e => by
    cases e
    exact ⟨a, ns, rfl, h1, h3.sq⟩
  cases d with
  | fr _ => exact .inl e
  | ow _ => exact .inl e
  | bor i =>
    rcases R.tp.1 with ⟨i', e1, h1⟩ | h
    · cases e1
      unfold pyO at e
      unfold pyT
      dsimp only at e ⊢
      cases q : st[i]? with
      | none => rw [q] at e; cases e
      | some y =>
        rw [q] at e
        cases y with
        | fr _ => exact .inl e
        | ow _ => exact .inl e
        | scr ns =>
          rcases R.sl i _ q with z | ⟨v', h2, h3⟩
          · cases z
          · rw [h1] at h2; cases h2
            exact .inr (scr _ ns h3 e)
        | dk _ => cases e
        | cst _ => cases e
        | exn _ => cases e
        | un _ => cases e
        | gone => cases e
        | bor _ => cases e
    · exact h.elim
  | exn _ => cases e
  | un _ => cases e
  | scr ns => exact .inr (scr _ ns (R.top (d := .scr ns) (fun i z => by cases z)) e)
  | dk _ => cases e
  | cst _ => cases e
  | gone => cases e
theorem RelX.dp {x : PyData} (R : RelX K B lv st (d :: tm) σ (v :: tv) H F O) (e : pyO st d = some x) : Dq K H v x := by
  rcases R.viewO e with e | ⟨a, ns, rfl, rfl, h⟩
  · rcases R.view e with h | ⟨a, vs, ds, w, rfl, rfl, _, h, r⟩
    · exact Rp.dp _ _ h
    · exact .lst (SqL.of h) (RpA.dp _ _ r)
  · exact .lst h (RpA.dp (F := F) _ _ (RpA.ofInts ns))
theorem Rel.dp {x : PyData} (R : Rel K B lv st (d :: tm) σ (v :: tv) H) (e : pyO st d = some x) : Dq K H v x := let ⟨F, O, R⟩ := R; R.dp e
theorem RelX.lst {ds : List PyData} (R : RelX K B lv st (d :: tm) σ (v :: tv) H F O) (e : pyO st d = some (.list ds)) : ∃ a vs, v = .ref a ∧ SqL K H a vs ∧ RpA K F H vs ds := by
  rcases R.viewO e with e | ⟨a, ns, e', rfl, h⟩
  · rcases R.view e with h | ⟨a, vs, ds', w, e1, rfl, _, h, r⟩
    · cases h with
      | lst f h r => exact ⟨_, _, rfl, SqL.of h, r⟩
    · cases e1; exact ⟨a, vs, rfl, SqL.of h, r⟩
  · cases e'; exact ⟨a, _, rfl, h, RpA.ofInts ns⟩
theorem RelX.lstT {ds : List PyData} (R : RelX K B lv st (d :: tm) σ (v :: tv) H F O) (e : pyT st d = some (.list ds)) : ∃ a vs, v = .ref a ∧ H a = some (.lst vs) ∧ RpA K F H vs ds := by
  rcases R.view e with h | ⟨a, vs, ds', w, e1, rfl, _, h, r⟩
  · cases h with
    | lst f h r => exact ⟨_, _, rfl, h, r⟩
  · cases e1; exact ⟨a, vs, rfl, h, r⟩
theorem RelX.tup {ds : List PyData} (R : RelX K B lv st (d :: tm) σ (v :: tv) H F O) (e : pyO st d = some (.tuple ds)) : ∃ a vs, v = .ref a ∧ SqT K H a vs ∧ RpA K F H vs ds := by
  rcases R.viewO e with e | ⟨a, ns, e', rfl, h⟩
  · rcases R.view e with h | ⟨a, vs, ds', w, e1, rfl, _, h, r⟩
    · cases h with
      | tup h r => exact ⟨_, _, rfl, h, r⟩
    · cases e1
  · cases e'
theorem Rel.lst {ds : List PyData} (R : Rel K B lv st (d :: tm) σ (v :: tv) H) (e : pyO st d = some (.list ds)) : ∃ a vs, v = .ref a ∧ SqL K H a vs ∧ vs.length = ds.length := by
  obtain ⟨F, O, R⟩ := R
  obtain ⟨a, vs, h1, h2, r⟩ := R.lst e
  exact ⟨a, vs, h1, h2, r.length⟩
theorem Rel.tup {ds : List PyData} (R : Rel K B lv st (d :: tm) σ (v :: tv) H) (e : pyO st d = some (.tuple ds)) : ∃ a vs, v = .ref a ∧ SqT K H a vs ∧ vs.length = ds.length := by
  obtain ⟨F, O, R⟩ := R
  obtain ⟨a, vs, h1, h2, r⟩ := R.tup e
  exact ⟨a, vs, h1, h2, r.length⟩
/-- scalars -/
theorem RelX.scal {x : PyData} (R : RelX K B lv st (d :: tm) σ (v :: tv) H F O) (e : pyO st d = some x) : (x = .none → v = .non) ∧ (∀ b, x = .bool b → v = .bl b) ∧ (∀ i, x = .int i → v = .int i) ∧ (∀ i, x = .str i → v = .str i) := by
  have h := R.dp e
  refine ⟨fun q => ?_, fun b q => ?_, fun b q => ?_, fun b q => ?_⟩ <;> (subst q; cases h; rfl)
end
end DL

/-! The data layer, part 2: what changes the state. -/
namespace DL
open PySem PySem.Spec PyProof.Rows L2
section
variable {K : PySem.W.Frag} {B : Ba} {lv : List (Nat × V)} {st tm : List Vl} {σ : L2.St} {tv : List V} {H H' : Hp} {F F' : Addr → Prop} {O O' : Addr → Option Ow} {v : V} {d : Vl} {a p : Addr}

theorem upd_le {o : HO} (hp : H p = none) : ∀ b u, H b = some u → upd H p o b = some u := fun b u e => by
  rw [upd_ne (ne_of_none e hp)]; exact e
/-- a new thing at p that nobody owns -/
theorem RelX.new {o : HO} (R : RelX K B lv st tm σ tv H F O) (hp : H p = none) : RelX K B lv st tm σ tv (upd H p o) F O :=
  R.grow (upd_le hp) (fun _ _ h => h) R.fo (fun b w h => by
    obtain ⟨u, e, n⟩ := R.oh b w h
    exact ⟨u, upd_le hp b u e, n⟩) R.mi
theorem RelX.oh' (R : RelX K B lv st tm σ tv H F O) {w : Ow} (h : O a = some w) (z : H a = none) : False := by
  obtain ⟨o, e, _⟩ := R.oh a w h
  rw [z] at e; cases e
/-- a new thing at p, a temp's -/
theorem RelX.newO {o : HO} (R : RelX K B lv st tm σ tv H F O) (hp : H p = none) (hs : ¬ Stl o) : RelX K B lv st tm σ tv (upd H p o) F (fun b => if b = p then some (.inr tm.length) else O b) :=
  R.grow (upd_le hp) (fun b w h => by
      by_cases e : b = p
      · subst e; exact (R.oh' h hp).elim
      · rw [if_neg e]; exact h)
    (fun b f => by
      by_cases e : b = p
      · subst e; exact absurd hp (R.fh b f)
      · rw [if_neg e]; exact R.fo b f)
    (fun b w h => by
      by_cases e : b = p
      · subst e; rw [upd_same]; exact ⟨o, rfl, hs⟩
      · rw [if_neg e] at h
        rw [upd_ne e]; exact R.oh b w h)
    (fun b w h => by
      by_cases e : b = p
      · subst e
        cases q : B.H0 b with
        | none => exact .inr rfl
        | some o =>
          by_cases n : B.A0 b
          · exact .inl n
          · rw [R.fr b o q n] at hp; cases hp
      · rw [if_neg e] at h; exact R.mi b w h)
theorem RelX.newTup {vs : List V} {ds : List PyData} (R : RelX K B lv st tm σ tv H F O) (hp : H p = none) (r : RpA K F H vs ds) : RelX K B lv st (.fr (.tuple ds) :: tm) σ (.ref p :: tv) (upd H p (.tup vs)) F O :=
  (R.new hp).push (Rp.tup (SqT.of upd_same) (r.keep (fun _ h => h) (fun b u e _ => upd_le hp b u e)))
theorem RelX.newLst {vs : List V} {ds : List PyData} (R : RelX K B lv st tm σ tv H F O) (hp : H p = none) (r : RpA K F H vs ds) : RelX K B lv st (.ow ds :: tm) σ (.ref p :: tv) (upd H p (.lst vs)) F (fun b => if b = p then some (.inr tm.length) else O b) :=
  (R.newO (o := .lst vs) hp (fun z => z)).push ⟨p, vs, rfl, if_pos rfl, upd_same, r.keep (fun _ h => h) (fun b u e _ => upd_le hp b u e)⟩
/-- temps as a list of data, the last one on top -/
theorem RelX.frs : ∀ {ds : List PyData} {vs : List V} {tm : List Vl} {tv : List V}, vs.length = ds.length → RelX K B lv st ((ds.map Vl.fr).reverse ++ tm) σ (vs.reverse ++ tv) H F O → RpA K F H vs ds ∧ RelX K B lv st tm σ tv H F O
  | [], [], tm, tv, _, R => ⟨.nil, R⟩
  | d :: ds, v :: vs, tm, tv, e, R => by
    rw [List.map_cons, List.reverse_cons, List.reverse_cons, List.append_assoc, List.append_assoc] at R
    obtain ⟨r, R'⟩ := RelX.frs (ds := ds) (vs := vs) (Nat.succ.inj e) R
    exact ⟨.cons (R'.top (d := .fr d) (fun i z => by cases z)) r, R'.pop⟩
  | [], _ :: _, _, _, e, _ => by cases e
  | _ :: _, [], _, _, e, _ => by cases e

/-! ### freezing -/
/-- who owns behind the freezing of a -/
theorem RelX.frz (R : RelX K B lv st tm σ tv H F O) (h : H a ≠ none) (ho : ∃ w, O a = some w)
    (hs : ∀ i, O a = some (.inl i) → False) (ht : ∀ n, O a = some (.inr n) → tm.length ≤ n) : RelX K B lv st tm σ tv H (fun b => F b ∨ b = a) (fun b => if b = a then none else O b) := by
  have kp : Kp F H H := fun _ _ e _ => e
  refine ⟨R.len, fun i d e => ?_, R.tp.keep (fun b f => .inl f) kp σ (fun b n hn e => ?_) (fun b o n _ _ e => e) (fun _ _ _ h => h), fun b f => ?_, fun b w e => ?_, fun b f => ?_, R.fr, fun b w e => ?_, fun b f => .inl (R.f0 b f), fun b f => ?_, R.lk⟩
  · rcases R.sl i d e with h | ⟨v, h1, h2⟩
    · exact .inl h
    · refine .inr ⟨v, h1, h2.keep (fun b f => .inl f) kp (fun b e => ?_) (fun b o _ e => e)⟩
      by_cases q : b = a
      · subst q; exact (hs i e).elim
      · rw [if_neg q]; exact e
  · by_cases q : b = a
    · subst q; exact absurd (ht n e) (Nat.not_le.mpr hn)
    · rw [if_neg q]; exact e
  · by_cases q : b = a
    · rw [if_pos q]
    · rw [if_neg q]; exact R.fo b (f.resolve_right q)
  · by_cases q : b = a
    · rw [if_pos q] at e; cases e
    · rw [if_neg q] at e; exact R.oh b w e
  · rcases f with f | rfl
    · exact R.fh b f
    · exact h
  · by_cases q : b = a
    · rw [if_pos q] at e; cases e
    · rw [if_neg q] at e; exact R.mi b w e
  · rcases f with f | rfl
    · exact R.f1 b f
    · obtain ⟨w, e⟩ := ho
      rcases R.mi b w e with z | z
      · exact .inr (.inr z)
      · exact .inr (.inl z)
def Vl.frz : Vl → Vl
  | .ow ds => .fr (.list ds)
  | d => d
theorem Rel.frzTop (R : Rel K B lv st (d :: tm) σ (v :: tv) H) : Rel K B lv st (d.frz :: tm) σ (v :: tv) H := by
  cases d with
  | ow ds =>
    obtain ⟨F, O, R⟩ := R
    obtain ⟨a, vs, rfl, ho, h, r⟩ := R.top (d := .ow ds) (fun i z => by cases z)
    have R1 := R.pop
    have R2 : RelX K B lv st tm σ tv H (fun b => F b ∨ b = a) (fun b => if b = a then none else O b) :=
      R1.frz (a := a) (by rw [h]; intro z; cases z) ⟨_, ho⟩ (fun i e => by rw [ho] at e; cases e) (fun n e => by rw [ho] at e; cases e; exact Nat.le_refl _)
    refine ⟨_, _, R2.push (d := .fr (.list ds)) (Rp.lst (.inr rfl) h (r.keep (fun b f => .inl f) fun _ _ e _ => e))⟩
  | _ => exact R

/-! ### slots -/
theorem RelX.setSl {i : Nat} {d' : Vl} (R : RelX K B lv st tm σ tv H F O) (hv : d' = .gone ∨ ∃ v, σ[i]? = some (some v) ∧ VR K F O H (.inl i) v d') : RelX K B lv (st.set i d') tm σ tv H F O := by
  refine ⟨by rw [List.length_set]; exact R.len, fun j e h => ?_, R.tp, R.fo, R.oh, R.fh, R.fr, R.mi, R.f0, R.f1, R.lk⟩
  by_cases q : i = j
  · subst q
    by_cases hl : i < st.length
    · rw [List.getElem?_set_self hl] at h
      cases h; exact hv
    · rw [List.getElem?_eq_none (by rw [List.length_set]; exact Nat.not_lt.mp hl)] at h; cases h
  · rw [List.getElem?_set_ne q] at h
    exact R.sl j e h
/-- read a slot with frozen data -/
theorem Rel.copy {i : Nat} {x : PyData} (R : Rel K B lv st tm σ tv H) (e : st[i]? = some (.fr x)) : ∃ v, σ[i]? = some (some v) ∧ Rel K B lv st (.fr x :: tm) σ (v :: tv) H := by
  obtain ⟨F, O, R⟩ := R
  rcases R.sl i _ e with z | ⟨v, h1, h2⟩
  · cases z
  · exact ⟨v, h1, F, O, R.push h2⟩
theorem Rel.copyC {i : Nat} {c : V} (R : Rel K B lv st tm σ tv H) (e : st[i]? = some (.cst c)) : ∃ v, σ[i]? = some (some v) ∧ Rel K B lv st (.cst c :: tm) σ (v :: tv) H := by
  obtain ⟨F, O, R⟩ := R
  rcases R.sl i _ e with z | ⟨v, h1, h2⟩
  · cases z
  · exact ⟨v, h1, F, O, R.push (d := .cst c) h2⟩
/-- an alias of a slot -/
theorem Rel.alias {i : Nat} (R : Rel K B lv st tm σ tv H) (e : st[i]? = some d) (hd : d ≠ .gone) : ∃ v, σ[i]? = some (some v) ∧ Rel K B lv st (.bor i :: tm) σ (v :: tv) H := by
  obtain ⟨F, O, R⟩ := R
  rcases R.sl i _ e with z | ⟨v, h1, h2⟩
  · exact absurd z hd
  · exact ⟨v, h1, F, O, R.len, R.sl, ⟨.inl ⟨i, rfl, h1⟩, R.tp⟩, R.fo, R.oh, R.fh, R.fr, R.mi, R.f0, R.f1, R.lk⟩
/-- a slot's own list is frozen -/
theorem Rel.frzSl {i : Nat} {ds : List PyData} (R : Rel K B lv st tm σ tv H) (e : st[i]? = some (.ow ds)) : Rel K B lv (st.set i (.fr (.list ds))) tm σ tv H := by
  obtain ⟨F, O, R⟩ := R
  rcases R.sl i _ e with z | ⟨v, h1, a, vs, rfl, ho, h, r⟩
  · cases z
  · have R0 : RelX K B lv (st.set i .gone) tm σ tv H F O := R.setSl (.inl rfl)
    have hno : ∀ j d', (st.set i .gone)[j]? = some d' → j = i → d' = .gone := fun j d' q z => by
      subst z
      have hl : j < st.length := (List.getElem?_eq_some_iff.mp e).1
      rw [List.getElem?_set_self hl] at q
      exact (Option.some.inj q).symm
    have kp : Kp F H H := fun _ _ e _ => e
    refine ⟨fun b => F b ∨ b = a, fun b => if b = a then none else O b, by rw [List.length_set]; exact R.len, fun j d' q => ?_, R.tp.keep (fun b f => .inl f) kp σ (fun b n hn z => ?_) (fun b o n _ _ z => z) (fun _ _ _ h => h), fun b f => ?_, fun b w z => ?_, fun b f => ?_, R.fr, fun b w z => ?_, fun b f => .inl (R.f0 b f), fun b f => ?_, R.lk⟩
    · by_cases hj : i = j
      · subst hj
        have hl : i < st.length := (List.getElem?_eq_some_iff.mp e).1
        rw [List.getElem?_set_self hl] at q
        cases q
        exact .inr ⟨_, h1, Rp.lst (.inr rfl) h (r.keep (fun b f => .inl f) kp)⟩
      · rw [List.getElem?_set_ne hj] at q
        rcases R.sl j d' q with z | ⟨u, g1, g2⟩
        · exact .inl z
        · refine .inr ⟨u, g1, g2.keep (fun b f => .inl f) kp (fun b z => ?_) (fun b o _ z => z)⟩
          rw [if_neg]
          · exact z
          · rintro rfl; rw [ho] at z; cases z; exact hj rfl
    · rw [if_neg]
      · exact z
      · rintro rfl; rw [ho] at z; cases z
    · by_cases q : b = a
      · rw [if_pos q]
      · rw [if_neg q]; exact R.fo b (f.resolve_right q)
    · by_cases q : b = a
      · rw [if_pos q] at z; cases z
      · rw [if_neg q] at z; exact R.oh b w z
    · rcases f with f | rfl
      · exact R.fh b f
      · rw [h]; intro z; cases z
    · by_cases q : b = a
      · rw [if_pos q] at z; cases z
      · rw [if_neg q] at z; exact R.mi b w z
    · rcases f with f | rfl
      · exact R.f1 b f
      · rcases R.mi b _ ho with z | z
        · exact .inr (.inr z)
        · exact .inr (.inl z)
/-- the top temp goes to a slot; no temp is an alias of that slot -/
theorem Rel.store {i : Nat} (R : Rel K B lv st (d :: tm) σ (v :: tv) H) (hb : ∀ j, d ≠ .bor j) (hi : i < st.length) (ht : Vl.bor i ∉ tm) (hl : ∀ p ∈ lv, p.1 ≠ i) : Rel K B lv (st.set i d) tm (σ.set i (some v)) tv H := by
  obtain ⟨F, O, R⟩ := R
  have h := R.top hb
  have kp : Kp F H H := fun _ _ e _ => e
  have hls : i < σ.length := by rw [← R.len]; exact hi
  refine ⟨F, fun b => if O b = some (.inr tm.length) then some (.inl i) else if O b = some (.inl i) then none else O b, by rw [List.length_set, List.length_set]; exact R.len, fun j d' q => ?_,
    R.tp.2.keep (fun _ f => f) kp _ (fun b n hn z => ?_) (fun b o n _ _ z => z) (fun j u hj z => ?_), fun b f => ?_, fun b w z => ?_, R.fh, R.fr, fun b w z => ?_, R.f0, R.f1, fun p hp => ?_⟩
  · by_cases hj : i = j
    · subst hj
      rw [List.getElem?_set_self hi] at q
      cases q
      refine .inr ⟨v, List.getElem?_set_self hls, h.keep (fun _ f => f) kp (fun b z => if_pos z) (fun b o _ z => z)⟩
    · rw [List.getElem?_set_ne hj] at q
      rcases R.sl j d' q with z | ⟨u, g1, g2⟩
      · exact .inl z
      · refine .inr ⟨u, by rw [List.getElem?_set_ne hj]; exact g1, g2.keep (fun _ f => f) kp (fun b z => ?_) (fun b o _ z => z)⟩
        rw [z, if_neg (by intro y; cases y), if_neg (by intro y; cases y; exact hj rfl)]
  · rw [z, if_neg (by intro y; cases y; exact absurd hn (Nat.lt_irrefl _)), if_neg (by intro y; cases y)]
  · rw [List.getElem?_set_ne]
    · exact z
    · rintro rfl; exact ht hj
  · rw [R.fo b f]; rfl
  · by_cases y : O b = some (.inr tm.length)
    · exact R.oh b _ y
    · rw [if_neg y] at z
      split at z
      · cases z
      · exact R.oh b _ z
  · by_cases y : O b = some (.inr tm.length)
    · exact R.mi b _ y
    · rw [if_neg y] at z
      split at z
      · cases z
      · exact R.mi b _ z
  · rw [List.getElem?_set_ne (fun e => hl p hp e.symm)]; exact R.lk p hp

/-! ### writing at what a slot owns -/
theorem RelX.write {i : Nat} {o' o : HO} {d' : Vl} {u : V} (R : RelX K B lv st tm σ tv H F O) (ho : O a = some (.inl i)) (h : H a = some o) (hn : ¬ Stl o) (hn' : ¬ Stl o') (hu : σ[i]? = some (some u)) (h' : VR K F O (upd H a o') (.inl i) u d') :
    RelX K B lv (st.set i d') tm σ tv (upd H a o') F O := by
  have kp : Kp F H (upd H a o') := fun b x e hb => by
    rw [upd_ne]
    · exact e
    · rintro rfl
      rcases hb with f | s
      · rw [R.fo _ f] at ho; cases ho
      · rw [h] at e; cases e; exact hn s
  refine ⟨by rw [List.length_set]; exact R.len, fun j d'' q => ?_, R.tp.keep (fun _ f => f) kp σ (fun b n _ z => z) (fun b x n _ z e => ?_) (fun _ _ _ z => z), R.fo, fun b w z => ?_, fun b f => ?_, fun b x e n => ?_, R.mi, R.f0, R.f1, R.lk⟩
  · by_cases hj : i = j
    · subst hj
      by_cases hl : i < st.length
      · rw [List.getElem?_set_self hl] at q
        cases q
        exact .inr ⟨u, hu, h'⟩
      · rw [List.getElem?_eq_none (by rw [List.length_set]; exact Nat.not_lt.mp hl)] at q; cases q
    · rw [List.getElem?_set_ne hj] at q
      rcases R.sl j d'' q with z | ⟨u, g1, g2⟩
      · exact .inl z
      · refine .inr ⟨u, g1, g2.keep (fun _ f => f) kp (fun b z => z) (fun b x z e => ?_)⟩
        rw [upd_ne]
        · exact e
        · rintro rfl; rw [ho] at z; cases z; exact hj rfl
  · rw [upd_ne]
    · exact e
    · rintro rfl; rw [ho] at z; cases z
  · by_cases q : b = a
    · subst q; rw [upd_same]; exact ⟨o', rfl, hn'⟩
    · rw [upd_ne q]; exact R.oh b w z
  · by_cases q : b = a
    · subst q; rw [upd_same]; intro y; cases y
    · rw [upd_ne q]; exact R.fh b f
  · rw [upd_ne]
    · exact R.fr b x e n
    · rintro rfl
      rcases R.mi _ _ ho with z | z
      · exact n z
      · rw [e] at z; cases z
/-- a list at a slot, through its alias on top of some temps -/
theorem RelX.ofAlias {i : Nat} {ds : List PyData} (R : RelX K B lv st (.bor i :: tm) σ (v :: tv) H F O) (e : st[i]? = some (.ow ds)) : ∃ a vs, v = .ref a ∧ O a = some (.inl i) ∧ H a = some (.lst vs) ∧ RpA K F H vs ds ∧ σ[i]? = some (some (.ref a)) := by
  rcases R.tp.1 with ⟨j, ej, h1⟩ | h
  · cases ej
    rcases R.sl i _ e with z | ⟨u, h2, a, vs, rfl, h3, h4, h5⟩
    · cases z
    · rw [h1] at h2; cases h2
      exact ⟨a, vs, rfl, h3, h4, h5, h1⟩
  · exact h.elim
/-- the list of slot i is written -/
theorem RelX.putL {i : Nat} {ds : List PyData} {vs : List V} (R : RelX K B lv st tm σ tv H F O) (ho : O a = some (.inl i)) {vs0 : List V} (h : H a = some (.lst vs0)) (hu : σ[i]? = some (some (.ref a))) (r : RpA K F H vs ds) : RelX K B lv (st.set i (.ow ds)) tm σ tv (upd H a (.lst vs)) F O := by
  have kp : Kp F H (upd H a (.lst vs)) := fun b x e hb => by
    rw [upd_ne]
    · exact e
    · rintro rfl
      rcases hb with f | s
      · rw [R.fo _ f] at ho; cases ho
      · rw [h] at e; cases e; exact s
  exact R.write ho h (fun z => z) (fun z => z) hu ⟨a, vs, rfl, ho, upd_same, r.keep (fun _ f => f) kp⟩
end
end DL

/-! The data layer, part 3: the judgements over data; expressions. -/
namespace DL
open PySem PySem.Spec PyProof.Rows L2

theorem PE.weak {X : Cx} {e : Expr} {t t' : TE} (h : PE X e t) (i : ∀ σ H Q, t' σ H Q → t σ H Q) : PE X e t' := ⟨fun pins s σ H Q I q => h.run pins s σ H Q I (i σ H Q q)⟩
theorem PT.weak {X : Cx} {e : Expr} {t t' : TT} (h : PT X e t) (i : ∀ σ H Q, t' σ H Q → t σ H Q) : PT X e t' := ⟨fun pins s σ H Q I q => h.run pins s σ H Q I (i σ H Q q)⟩
theorem PW.weak {X : Cx} {e : Expr} {t t' : TT} (h : PW X e t) (i : ∀ σ H Q, t' σ H Q → t σ H Q) : PW X e t' := ⟨fun wh pins s σ H Q I q => h.run wh pins s σ H Q I (i σ H Q q)⟩
theorem PA.weak {X : Cx} {e : List Expr} {t t' : TA} (h : PA X e t) (i : ∀ σ H Q, t' σ H Q → t σ H Q) : PA X e t' := ⟨fun wh pins s σ H Q I q => h.run wh pins s σ H Q I (i σ H Q q)⟩
theorem PS.weak {X : Cx} {e : Stmt} {t t' : TS} (h : PS X e t) (i : ∀ D σ H, t' D σ H → t D σ H) : PS X e t' := ⟨fun pins s σ H D I q => h.run pins s σ H D I (i D σ H q)⟩
theorem PSs.weak {X : Cx} {e : List Stmt} {t t' : TS} (h : PSs X e t) (i : ∀ D σ H, t' D σ H → t D σ H) : PSs X e t' := ⟨fun pins s σ H D I q => h.run pins s σ H D I (i D σ H q)⟩
theorem PG.weak {X : Cx} {e : Expr} {t t' : TG} (h : PG X e t) (i : ∀ v σ H Q, t' v σ H Q → t v σ H Q) : PG X e t' := ⟨fun pins s σ H v u Q I r q => h.run pins s σ H v u Q I r (i v σ H Q q)⟩

/-- the slots that stay are told in lk; those of the def's own call are among them -/
abbrev Lk (B : Ba) (lv : List (Nat × V)) (lk : List Nat) : Prop := (∀ p ∈ lv, p.1 ∈ lk) ∧ ∀ p ∈ B.L0, p ∈ lv
abbrev DT := List Vl → (Vl → List Vl → Prop) → Prop
abbrev DTT := List Vl → (Bool → List Vl → Prop) → Prop
abbrev DTA := List Vl → (List Vl → List Vl → Prop) → Prop
def LE (K : PySem.W.Frag) (B : Ba) (lk : List Nat) (t : DT) : TE := fun σ H Q => ∃ lv st tm tv Q0, Lk B lv lk ∧ Rel K B lv st tm σ tv H ∧ t st Q0 ∧ ∀ d st' v H', Q0 d st' → Rel K B lv st' (d :: tm) σ (v :: tv) H' → Q v H'
def LT (K : PySem.W.Frag) (B : Ba) (lk : List Nat) (t : DTT) : TT := fun σ H Q => ∃ lv st tm tv Q0, Lk B lv lk ∧ Rel K B lv st tm σ tv H ∧ t st Q0 ∧ ∀ b st' H', Q0 b st' → Rel K B lv st' tm σ tv H' → Q b H'
def LA (K : PySem.W.Frag) (B : Ba) (lk : List Nat) (t : DTA) : TA := fun σ H Q => ∃ lv st tm tv Q0, Lk B lv lk ∧ Rel K B lv st tm σ tv H ∧ t st Q0 ∧ ∀ ds st' vs H', Q0 ds st' → vs.length = ds.length → Rel K B lv st' (ds.reverse ++ tm) σ (vs.reverse ++ tv) H' → Q vs H'
abbrev DE (X : Cx) (B : Ba) (lk : List Nat) (e : Expr) (t : DT) : Prop := PE X e (LE X.K B lk t)
abbrev DC (X : Cx) (B : Ba) (lk : List Nat) (e : Expr) (t : DTT) : Prop := PT X e (LT X.K B lk t)
abbrev DW (X : Cx) (B : Ba) (lk : List Nat) (e : Expr) (t : DTT) : Prop := PW X e (LT X.K B lk t)
abbrev DA (X : Cx) (B : Ba) (lk : List Nat) (es : List Expr) (t : DTA) : Prop := PA X es (LA X.K B lk t)

/-! ### constants, names -/
def cK (d : Vl) : DT := fun st Q => Q d st
section
variable {X : Cx} {B : Ba} {lk : List Nat} {a b e : Expr} {es rest : List Expr} {ta tb : DT} {pos : Pos}
theorem de_int {i j} : DE X B lk (.Constant (.int i) j pos) (cK (.fr (.int i))) := PE.weak pe_int fun σ H Q ⟨lv, st, tm, tv, Q0, L, R, h, k⟩ => k _ _ _ _ h (R.int i)
theorem de_str {i j} : DE X B lk (.Constant (.str i) j pos) (cK (.fr (.str i))) := PE.weak pe_str fun σ H Q ⟨lv, st, tm, tv, Q0, L, R, h, k⟩ => k _ _ _ _ h (R.str i)
theorem de_bl {i j} : DE X B lk (.Constant (.bool i) j pos) (cK (.fr (.bool i))) := PE.weak pe_bl fun σ H Q ⟨lv, st, tm, tv, Q0, L, R, h, k⟩ => k _ _ _ _ h (R.bl i)
theorem de_non {j} : DE X B lk (.Constant .none j pos) (cK (.fr .none)) := PE.weak pe_non fun σ H Q ⟨lv, st, tm, tv, Q0, L, R, h, k⟩ => k _ _ _ _ h R.non
/-- a name's value: frozen data is copied, what is owned is an alias -/
def cVar (i : Nat) : DT := fun st Q => match st[i]? with
  | some (.fr x) => Q (.fr x) st
  | some (.cst c) => Q (.cst c) st
  | some (.ow _) => Q (.bor i) st
  | some (.dk _) => Q (.bor i) st
  | some (.scr ns) => Q (.scr ns) st
  | some (.exn x) => Q (.exn x) st
  | some (.un _) => Q (.bor i) st
  | _ => False
theorem Rel.copyS {K : PySem.W.Frag} {lv : List (Nat × V)} {st tm : List Vl} {σ : L2.St} {tv : List V} {H : Hp} {i : Nat} {ns : List Int} (R : Rel K B lv st tm σ tv H) (e : st[i]? = some (.scr ns)) : ∃ v, σ[i]? = some (some v) ∧ Rel K B lv st (.scr ns :: tm) σ (v :: tv) H := by
  obtain ⟨F, O, R⟩ := R
  rcases R.sl i _ e with z | ⟨v, h1, h2⟩
  · cases z
  · exact ⟨v, h1, F, O, R.push (d := .scr ns) h2⟩
theorem Rel.copyX {K : PySem.W.Frag} {lv : List (Nat × V)} {st tm : List Vl} {σ : L2.St} {tv : List V} {H : Hp} {i : Nat} {x : Str} (R : Rel K B lv st tm σ tv H) (e : st[i]? = some (.exn x)) : ∃ v, σ[i]? = some (some v) ∧ Rel K B lv st (.exn x :: tm) σ (v :: tv) H := by
  obtain ⟨F, O, R⟩ := R
  rcases R.sl i _ e with z | ⟨v, h1, h2⟩
  · cases z
  · exact ⟨v, h1, F, O, R.push (d := .exn x) h2⟩
theorem de_var (i : Nat) {x : Str} (hN : X.N[i]? = some x := by rfl) (hv : Vis X.env.scope x := by first | exact Or.inl rfl | exact Or.inr (Or.inl rfl) | exact Or.inr (Or.inr rfl)) (hd : (x == ("__debug__" : Str)) = false := by decide)
    (hcd : (x == ("__classdict__" : Str)) = false := by decide) : DE X B lk (.Name x pos) (cVar i) := PE.weak (pe_var hN hv hd hcd) fun σ H Q ⟨lv, st, tm, tv, Q0, L, R, h, k⟩ => by
  unfold cVar at h
  cases q : st[i]? with
  | none => rw [q] at h; exact h.elim
  | some d =>
    rw [q] at h
    cases d with
    | fr x => obtain ⟨v, h1, R'⟩ := R.copy q; exact ⟨v, h1, k _ _ _ _ h R'⟩
    | cst x => obtain ⟨v, h1, R'⟩ := R.copyC q; exact ⟨v, h1, k _ _ _ _ h R'⟩
    | scr x => obtain ⟨v, h1, R'⟩ := R.copyS q; exact ⟨v, h1, k _ _ _ _ h R'⟩
    | exn x => obtain ⟨v, h1, R'⟩ := R.copyX q; exact ⟨v, h1, k _ _ _ _ h R'⟩
    | ow x => obtain ⟨v, h1, R'⟩ := R.alias q (by intro z; cases z); exact ⟨v, h1, k _ _ _ _ h R'⟩
    | dk x => obtain ⟨v, h1, R'⟩ := R.alias q (by intro z; cases z); exact ⟨v, h1, k _ _ _ _ h R'⟩
    | un x => obtain ⟨v, h1, R'⟩ := R.alias q (by intro z; cases z); exact ⟨v, h1, k _ _ _ _ h R'⟩
    | bor _ => exact h.elim
    | gone => exact h.elim
/-- a global that is a constant of the module (a scalar), a class, a def -/
theorem de_globI {x : Str} {i : Int} {u : Value} (hg : Gl X x) (hm : X.mg x = some u) (r : RelV (.int i) u) (hd : (x == ("__debug__" : Str)) = false := by decide) : DE X B lk (.Name x pos) (cK (.fr (.int i))) :=
  PE.weak (pe_glob hg hm r hd) fun σ H Q ⟨lv, st, tm, tv, Q0, L, R, h, k⟩ => k _ _ _ _ h (R.int i)
/-! ### taking over what is owned -/
/-- frozen: a fresh list, or a slot's own one (which is frozen there, too) -/
def cFrz (t : DT) : DT := fun st Q => t st fun d st' => match d with
  | .bor i => match st'[i]? with
    | some (.ow ds) => Q (.fr (.list ds)) (st'.set i (.fr (.list ds)))
    | _ => False
  | .ow ds => Q (.fr (.list ds)) st'
  | .fr d => Q (.fr d) st'
  | .cst c => Q (.cst c) st'
  | _ => False
theorem Rel.frzAlias {K : PySem.W.Frag} {lv : List (Nat × V)} {st tm : List Vl} {σ : L2.St} {v : V} {tv : List V} {H : Hp} {i : Nat} {ds : List PyData} (R : Rel K B lv st (.bor i :: tm) σ (v :: tv) H) (e : st[i]? = some (.ow ds)) :
    Rel K B lv (st.set i (.fr (.list ds))) (.fr (.list ds) :: tm) σ (v :: tv) H := by
  have hi : i < st.length := (List.getElem?_eq_some_iff.mp e).1
  have R1 := R.pop.frzSl e
  obtain ⟨u, h1, R2⟩ := R1.copy (i := i) (x := .list ds) (List.getElem?_set_self hi)
  obtain ⟨F, O, R⟩ := R
  obtain ⟨a, vs, e1, _, _, _, e2⟩ := R.ofAlias e
  rw [e2] at h1; cases h1; rw [e1]; exact R2
theorem de_frz (h : DE X B lk e ta) : DE X B lk e (cFrz ta) := PE.weak h fun σ H Q ⟨lv, st, tm, tv, Q0, L, R, h, k⟩ => by
  refine ⟨lv, st, tm, tv, _, L, R, h, fun d st' v H' q R' => ?_⟩
  cases d with
  | fr x => exact k _ _ _ _ q R'
  | ow ds => exact k _ _ _ _ q R'.frzTop
  | cst c => exact k _ _ _ _ q R'
  | bor i =>
    try dsimp only at q
    cases z : st'[i]? with
    | none => rw [z] at q; exact q.elim
    | some d =>
      rw [z] at q
      cases d with
      | ow ds => exact k _ _ _ _ q (R'.frzAlias z)
      | _ => exact False.elim q
  | _ => exact False.elim q
/-! ### operators -/
/-- a binary operation by data -/
abbrev DOp := List Vl → Vl → Vl → (Vl → List Vl → Prop) → Prop
def c2 (g : DOp) (ta tb : DT) : DT := fun st Q => ta st fun x st1 => tb st1 fun y st2 => g st2 x y Q
def DOk (K : PySem.W.Frag) (B : Ba) (g : DOp) (r : R2) : Prop := ∀ lv st tm σ tv H x y u v Q0 (Q : VK), Rel K B lv st (y :: x :: tm) σ (v :: u :: tv) H → g st x y Q0 → (∀ d st' w H', Q0 d st' → Rel K B lv st' (d :: tm) σ (w :: tv) H' → Q w H') → r u v H Q
theorem c2_weak {K : PySem.W.Frag} {g : DOp} {r : R2} (ok : DOk K B g r) {σ : L2.St} {H : Hp} {Q : VK} (h : LE K B lk (c2 g ta tb) σ H Q) : tOp r (LE K B lk ta) (LE K B lk tb) σ H Q := by
  obtain ⟨lv, st, tm, tv, Q0, L, R, h, k⟩ := h
  refine ⟨lv, st, tm, tv, _, L, R, h, fun x st1 u H1 h1 R1 => ?_⟩
  refine ⟨lv, st1, x :: tm, u :: tv, _, L, R1, h1, fun y st2 v H2 h2 R2 => ?_⟩
  exact ok lv st2 tm σ tv H2 x y u v Q0 Q R2 h2 fun d st' w H' q R' => k d st' w H' q R'
theorem de_op {op : Operator} {r : R2} {g : DOp} (ho : OpR X (binaryOp op) r) (ok : DOk X.K B g r) (ha : DE X B lk a ta) (hb : DE X B lk b tb) : DE X B lk (.BinOp a op b pos) (c2 g ta tb) := PE.weak (pe_op ho ha hb) fun _ _ _ h => c2_weak ok h
theorem de_cmp {op : CmpOp} {r : R2} {g : DOp} (ho : OpR X (compareOp op) r) (ok : DOk X.K B g r) (ha : DE X B lk a ta) (hb : DE X B lk b tb) (hm : behindInMarks op b = false) : DE X B lk (.Compare a [op] [b] pos) (c2 g ta tb) := PE.weak (pe_cmpR ho ha hb hm) fun _ _ _ h => c2_weak ok h
theorem de_ix {r : R2} {g : DOp} (hr : IxR X r) (ok : DOk X.K B g r) (ha : DE X B lk a ta) (hb : DE X B lk b tb) (hs : PlainIx b) : DE X B lk (.Subscript a b pos) (c2 g ta tb) := PE.weak (pe_ix hr ha hb hs) fun _ _ _ h => c2_weak ok h

/-- two ints -/
def gI (C : Int → Int → Prop) (f : Int → Int → PyData) : DOp := fun st x y Q => match x, y with
  | .fr (.int i), .fr (.int j) => C i j ∧ Q (.fr (f i j)) st
  | _, _ => False
theorem gI_ok {K : PySem.W.Frag} {C : Int → Int → Prop} {f : Int → Int → PyData} {g : Int → Int → V} (hf : ∀ F H i j, Rp K F H (g i j) (f i j)) {r : R2} (hr : ∀ i j H (Q : VK), C i j → Q (g i j) H → r (.int i) (.int j) H Q) : DOk K B (gI C f) r := by
  intro lv st tm σ tv H x y u v Q0 Q R h k
  unfold gI at h
  split at h
  · rename_i i j
    obtain ⟨c, h⟩ := h
    obtain rfl := R.isInt
    obtain rfl := R.pop.isInt
    exact hr i j H Q c (k _ _ _ _ h (R.pop.pop.push_fr fun F => hf F H i j))
  · exact h.elim
theorem gI_oki {K : PySem.W.Frag} {C : Int → Int → Prop} {f : Int → Int → Int} : DOk K B (gI C fun i j => .int (f i j)) (rI C fun i j => .int (f i j)) :=
  gI_ok (g := fun i j => .int (f i j)) (fun _ _ _ _ => .int _) fun i j H Q c q => ⟨i, j, rfl, rfl, c, q⟩
theorem gI_okb {K : PySem.W.Frag} {f : Int → Int → Bool} : DOk K B (gI (fun _ _ => True) fun i j => .bool (f i j)) (rI0 fun i j => .bl (f i j)) :=
  gI_ok (g := fun i j => .bl (f i j)) (fun _ _ _ _ => .bl _) fun i j H Q c q => ⟨i, j, rfl, rfl, q⟩
theorem de_sub (ha : DE X B lk a ta) (hb : DE X B lk b tb) : DE X B lk (.BinOp a .Sub b pos) (c2 (gI (fun _ _ => True) fun i j => .int (i - j)) ta tb) :=
  de_op op_sub (gI_ok (g := fun i j => .int (i - j)) (fun _ _ _ _ => .int _) fun i j H Q c q => ⟨i, j, rfl, rfl, q⟩) ha hb
theorem de_lt (ha : DE X B lk a ta) (hb : DE X B lk b tb) : DE X B lk (.Compare a [.Lt] [b] pos) (c2 (gI (fun _ _ => True) fun i j => .bool (decide (i < j))) ta tb) := de_cmp op_lt gI_okb ha hb (nomark _)
theorem de_gt (ha : DE X B lk a ta) (hb : DE X B lk b tb) : DE X B lk (.Compare a [.Gt] [b] pos) (c2 (gI (fun _ _ => True) fun i j => .bool (decide (j < i))) ta tb) := de_cmp op_gt gI_okb ha hb (nomark _)
theorem de_ge (ha : DE X B lk a ta) (hb : DE X B lk b tb) : DE X B lk (.Compare a [.GtE] [b] pos) (c2 (gI (fun _ _ => True) fun i j => .bool (decide (j ≤ i))) ta tb) := de_cmp op_ge gI_okb ha hb (nomark _)
/-- + of ints, texts, lists, tuples -/
def gAdd : DOp := fun st x y Q => match pyT st x, pyT st y with
  | some (.int i), some (.int j) => Q (.fr (.int (i + j))) st
  | some (.str a), some (.str b) => a.length + b.length ≤ sizeLine ∧ Q (.fr (.str (a ++ b))) st
  | some (.list a), some (.list b) => a.length + b.length ≤ sizeLine ∧ Q (.ow (a ++ b)) st
  | some (.tuple a), some (.tuple b) => a.length + b.length ≤ sizeLine ∧ Q (.fr (.tuple (a ++ b))) st
  | _, _ => False
def rAdd4 (K : PySem.W.Frag) : R2 := fun x y H Q => (∃ i j, x = .int i ∧ y = .int j ∧ Q (.int (i + j)) H) ∨ (∃ i j, x = .str i ∧ y = .str j ∧ i.length + j.length ≤ sizeLine ∧ Q (.str (i ++ j)) H) ∨ rCat x y H Q ∨ rCatA K x y H Q
theorem op_add4 : OpR X (binaryOp .Add) (rAdd4 X.K) := op_add.or (op_add_str.or (op_cat.or op_catA))
end

section
variable {X : Cx} {B : Ba} {lk : List Nat} {a b e : Expr} {es rest : List Expr} {ta tb : DT} {pos : Pos} {K : PySem.W.Frag}
theorem pyT_int {K : PySem.W.Frag} {B : Ba} {lv : List (Nat × V)} {st tm : List Vl} {σ : L2.St} {tv : List V} {H : Hp} {x : Vl} {u : V} {i : Int} (R : Rel K B lv st (x :: tm) σ (u :: tv) H) (e : pyT st x = some (.int i)) : u = .int i := by
  obtain ⟨F, O, R⟩ := R
  exact (R.scal (pyO_of_pyT e)).2.2.1 i rfl
theorem pyT_str {K : PySem.W.Frag} {B : Ba} {lv : List (Nat × V)} {st tm : List Vl} {σ : L2.St} {tv : List V} {H : Hp} {x : Vl} {u : V} {i : Str} (R : Rel K B lv st (x :: tm) σ (u :: tv) H) (e : pyT st x = some (.str i)) : u = .str i := by
  obtain ⟨F, O, R⟩ := R
  exact (R.scal (pyO_of_pyT e)).2.2.2 i rfl
theorem gAdd_ok : DOk K B gAdd (rAdd4 K) := by
  intro lv st tm σ tv H x y u v Q0 Q R h k
  unfold gAdd at h
  split at h
  · rename_i i j e1 e2
    obtain rfl := pyT_int R e2
    obtain rfl := pyT_int R.pop e1
    exact .inl ⟨i, j, rfl, rfl, k _ _ _ _ h (R.pop.pop.int _)⟩
  · rename_i i j e1 e2
    obtain rfl := pyT_str R e2
    obtain rfl := pyT_str R.pop e1
    exact .inr (.inl ⟨i, j, rfl, rfl, h.1, k _ _ _ _ h.2 (R.pop.pop.str _)⟩)
  · rename_i i j e1 e2
    obtain ⟨F, O, R⟩ := R
    obtain ⟨a, vs, rfl, h1, r1⟩ := R.lstT e2
    obtain ⟨b, ws, rfl, h2, r2⟩ := R.pop.lstT e1
    refine .inr (.inr (.inl ⟨b, a, ws, vs, rfl, rfl, h2, h1, by rw [r1.length, r2.length]; exact h.1, fun p hp => k _ _ _ _ h.2 ⟨F, _, R.pop.pop.newLst hp (r2.append r1)⟩⟩))
  · rename_i i j e1 e2
    obtain ⟨F, O, R⟩ := R
    obtain ⟨a, vs, rfl, h1, r1⟩ := R.tup (pyO_of_pyT e2)
    obtain ⟨b, ws, rfl, h2, r2⟩ := R.pop.tup (pyO_of_pyT e1)
    refine .inr (.inr (.inr ⟨b, a, ws, vs, rfl, rfl, h2, h1, by rw [r1.length, r2.length]; exact h.1, fun z => ?_, fun z1 z2 => ?_, fun z1 z2 p hp => k _ _ _ _ h.2 ⟨F, _, R.pop.pop.newTup hp (r2.append r1)⟩⟩))
    · subst z
      cases r2
      exact k _ _ _ _ h.2 ⟨F, O, R.pop.pop.push (d := .fr (.tuple ([] ++ j))) (Rp.tup h1 r1)⟩
    · subst z2
      cases r1
      exact k _ _ _ _ h.2 ⟨F, O, R.pop.pop.push (d := .fr (.tuple (i ++ []))) (Rp.tup h2 (by rw [List.append_nil]; exact r2))⟩
  · exact h.elim
theorem de_add (ha : DE X B lk a ta) (hb : DE X B lk b tb) : DE X B lk (.BinOp a .Add b pos) (c2 gAdd ta tb) := de_op op_add4 gAdd_ok ha hb
/-- * of ints; of a list, of a tuple by an int: see DL4 -/
theorem op_mulA : OpR X (binaryOp .Mult) (rI IntMulOk fun i j => .int (i * j)) := opI fun _ _ _ _ _ _ _ hc q => mul_int q hc
theorem de_mul (ha : DE X B lk a ta) (hb : DE X B lk b tb) : DE X B lk (.BinOp a .Mult b pos) (c2 (gI IntMulOk fun i j => .int (i * j)) ta tb) := de_op op_mulA gI_oki ha hb
theorem mulL {i j : Int} (h1 : -(2 ^ 64) < i) (h2 : i < 2 ^ 64) : IntMulOk i j := .of_left (intBits_le_64 h1 h2)
theorem mulR {i j : Int} (h1 : -(2 ^ 64) < j) (h2 : j < 2 ^ 64) : IntMulOk i j := .of_right (intBits_le_64 h1 h2)
def CD (_ j : Int) : Prop := 0 < j ∧ j < 2 ^ 1000
theorem CD.log {i j : Int} (h : CD i j) : j.natAbs.log2 < 9000 := by
  have h1 : j.natAbs < 2 ^ 1000 := by
    have := h.1
    have := h.2
    omega
  have := (Nat.log2_lt (by have := h.1; omega)).mpr h1
  omega
theorem op_fdivA : OpR X (binaryOp .FloorDiv) (rI CD fun i j => .int (i / j)) := opI fun i j _ _ _ _ _ hc q => by
  refine floordiv_int (by have := hc.1; omega) ?_ (.inl (PyProof.noPylong_of_log2 hc.log))
  rw [Int.fdiv_eq_ediv_of_nonneg _ (by have := hc.1; omega)]; exact q
theorem de_fdiv (ha : DE X B lk a ta) (hb : DE X B lk b tb) : DE X B lk (.BinOp a .FloorDiv b pos) (c2 (gI CD fun i j => .int (i / j)) ta tb) := de_op op_fdivA gI_oki ha hb
theorem de_mod (ha : DE X B lk a ta) (hb : DE X B lk b tb) : DE X B lk (.BinOp a .Mod b pos) (c2 (gI (fun _ j => 0 < j) fun i j => .int (i % j)) ta tb) := de_op op_mod gI_oki ha hb
theorem de_pow (ha : DE X B lk a ta) (hb : DE X B lk b tb) : DE X B lk (.BinOp a .Pow b pos) (c2 (gI CPow fun i j => .int (i ^ j.toNat)) ta tb) := de_op op_pow gI_oki ha hb
/-- no dict within, at most k deep -/
def dep : Nat → PyData → Bool
  | _, .none => true
  | _, .bool _ => true
  | _, .int _ => true
  | _, .str _ => true
  | 0, .list _ => false
  | 0, .tuple _ => false
  | _, .dict _ => false
  | k + 1, .list xs => xs.all (dep k)
  | k + 1, .tuple xs => xs.all (dep k)
theorem dep_all {k : Nat} (h : ∀ d, dep k d = true → d.plain = true ∧ d.depth ≤ k) : ∀ xs : List PyData, xs.all (dep k) = true → PyData.plainAll xs = true ∧ PyData.depthAll xs ≤ k
  | [], _ => ⟨rfl, Nat.zero_le _⟩
  | x :: xs, e => by
    rw [List.all_cons, Bool.and_eq_true] at e
    obtain ⟨a, b⟩ := h x e.1
    obtain ⟨c, d⟩ := dep_all h xs e.2
    refine ⟨by rw [PyData.plainAll, a, c]; rfl, ?_⟩
    rw [PyData.depthAll]
    exact Nat.max_le.mpr ⟨b, d⟩
theorem dep_ok : ∀ (k : Nat) (d : PyData), dep k d = true → d.plain = true ∧ d.depth ≤ k
  | k, .none, _ => ⟨rfl, Nat.zero_le _⟩
  | k, .bool _, _ => ⟨rfl, Nat.zero_le _⟩
  | k, .int _, _ => ⟨rfl, Nat.zero_le _⟩
  | k, .str _, _ => ⟨rfl, Nat.zero_le _⟩
  | 0, .list _, h => by simp [dep] at h
  | 0, .tuple _, h => by simp [dep] at h
  | 0, .dict _, h => by simp [dep] at h
  | k + 1, .dict _, h => by simp [dep] at h
  | k + 1, .list xs, h => by
    obtain ⟨a, b⟩ := dep_all (dep_ok k) xs (by simpa [dep] using h)
    exact ⟨by simpa [PyData.plain] using a, by simp only [PyData.depth]; omega⟩
  | k + 1, .tuple xs, h => by
    obtain ⟨a, b⟩ := dep_all (dep_ok k) xs (by simpa [dep] using h)
    exact ⟨by simpa [PyData.plain] using a, by simp only [PyData.depth]; omega⟩
theorem dep_nd : ∀ (k : Nat) (d : PyData), dep k d = true → nd d = true
  | k, .none, _ => by simp [nd]
  | k, .bool _, _ => by simp [nd]
  | k, .int _, _ => by simp [nd]
  | k, .str _, _ => by simp [nd]
  | 0, .list _, h => by simp [dep] at h
  | 0, .tuple _, h => by simp [dep] at h
  | 0, .dict _, h => by simp [dep] at h
  | k + 1, .dict _, h => by simp [dep] at h
  | k + 1, .list xs, h => by
    rw [nd]
    exact ndA_of fun x hx => dep_nd k x (List.all_eq_true.mp (by simpa [dep] using h) x hx)
  | k + 1, .tuple xs, h => by
    rw [nd]
    exact ndA_of fun x hx => dep_nd k x (List.all_eq_true.mp (by simpa [dep] using h) x hx)
theorem dep_ndA {k : Nat} {xs : List PyData} (h : xs.all (dep k) = true) : ndA xs = true := ndA_of fun x hx => dep_nd k x (List.all_eq_true.mp h x hx)
theorem dep_list {k : Nat} {xs : List PyData} (h : xs.all (dep k) = true) : PyData.plainAll xs = true ∧ PyData.depthAll xs ≤ k := dep_all (dep_ok k) xs h
abbrev Un0 (X : Cx) : Prop := X.A.units + 100 < cLine
/-- == and != of data -/
def gEq (neg : Bool) : DOp := fun st x y Q => match pyO st x, pyO st y with
  | some d, some e => dep 60 d = true ∧ dep 60 e = true ∧ Q (.fr (.bool (if neg then !PyData.eqv d e else PyData.eqv d e))) st
  | _, _ => False
def rEqP (K : PySem.W.Frag) (neg : Bool) : R2 := fun x y H Q => ∃ d e, Dq K H x d ∧ Dq K H y e ∧ dep 60 d = true ∧ dep 60 e = true ∧ Q (.bl (if neg then !PyData.eqv d e else PyData.eqv d e)) H
theorem op_eqP (hu : Un0 X) : OpR X (compareOp .Eq) (rEqP X.K false) := by
  intro pins s σ H x y v u Q I rx ry h
  obtain ⟨d, e, hd, he, sd, se, q⟩ := h
  obtain ⟨as, r1⟩ := Dq.reads I d x v (dep_nd _ _ sd) hd rx
  obtain ⟨bs, r2⟩ := Dq.reads I e y u (dep_nd _ _ se) he ry
  have e1 := dep_ok 60 d sd
  have e2 := dep_ok 60 e se
  exact SeqAt.eq_plain r1 r2 e1.1 e2.1 (by have := e1.2; have : min d.depth e.depth ≤ d.depth := Nat.min_le_left _ _; have hu' : X.A.units + 100 < cLine := hu; omega) ⟨.bl _, H, I, rfl, q⟩
theorem op_neP (hu : Un0 X) : OpR X (compareOp .NotEq) (rEqP X.K true) := by
  intro pins s σ H x y v u Q I rx ry h
  obtain ⟨d, e, hd, he, sd, se, q⟩ := h
  obtain ⟨as, r1⟩ := Dq.reads I d x v (dep_nd _ _ sd) hd rx
  obtain ⟨bs, r2⟩ := Dq.reads I e y u (dep_nd _ _ se) he ry
  have e1 := dep_ok 60 d sd
  have e2 := dep_ok 60 e se
  exact SeqAt.ne_plain r1 r2 e1.1 e2.1 (by have := e1.2; have : min d.depth e.depth ≤ d.depth := Nat.min_le_left _ _; have hu' : X.A.units + 100 < cLine := hu; omega) ⟨.bl _, H, I, rfl, q⟩
theorem gEq_ok {neg : Bool} : DOk K B (gEq neg) (rEqP K neg) := fun lv st tm σ tv H x y u v Q0 Q R h k => by
    unfold gEq at h
    split at h
    · rename_i d e e1 e2
      obtain ⟨s1, s2, q⟩ := h
      exact ⟨d, e, R.pop.dp e1, R.dp e2, s1, s2, k _ _ _ _ q (R.pop.pop.bl _)⟩
    · exact h.elim
theorem de_eq (hu : Un0 X) (ha : DE X B lk a ta) (hb : DE X B lk b tb) : DE X B lk (.Compare a [.Eq] [b] pos) (c2 (gEq false) ta tb) := de_cmp (op_eqP hu) gEq_ok ha hb (nomark _)
theorem de_ne (hu : Un0 X) (ha : DE X B lk a ta) (hb : DE X B lk b tb) : DE X B lk (.Compare a [.NotEq] [b] pos) (c2 (gEq true) ta tb) := de_cmp (op_neP hu) gEq_ok ha hb (nomark _)
def isNon : PyData → Bool
  | .none => true
  | _ => false
/-- is None, is not None -/
def gIsN (neg : Bool) : DOp := fun st x y Q => match pyO st x, y with
  | some d, .fr .none => Q (.fr (.bool (if neg then !isNon d else isNon d))) st
  | none, .fr .none => (match x with
    | .exn _ => Q (.fr (.bool neg)) st
    | _ => False)
  | _, _ => False
theorem non_iff {K : PySem.W.Frag} {B : Ba} {lv : List (Nat × V)} {st tm : List Vl} {σ : L2.St} {tv : List V} {H : Hp} {x : Vl} {u : V} {d : PyData} (R : Rel K B lv st (x :: tm) σ (u :: tv) H) (e : pyO st x = some d) : decide (u = .non) = isNon d := by
  have h := R.dp e
  cases h <;> simp [isNon]
theorem gIsN_ok : DOk K B (gIsN false) (fun x y H Q => y = .non ∧ Q (.bl (decide (x = .non))) H) := fun lv st tm σ tv H x y u v Q0 Q R h k => by
    unfold gIsN at h
    split at h
    · rename_i d e1
      have hv : v = .non := by
        obtain ⟨F, O, R⟩ := R
        exact (R.scal rfl).1 rfl
      refine ⟨hv, ?_⟩
      rw [non_iff R.pop e1]
      exact k _ _ _ _ h (R.pop.pop.bl _)
    · split at h
      · have hv : v = .non := by
          obtain ⟨F, O, R⟩ := R
          exact (R.scal rfl).1 rfl
        refine ⟨hv, ?_⟩
        obtain ⟨F, O, R1⟩ := R.pop
        obtain ⟨a, ea, _⟩ := R1.top (d := .exn _) (fun i z => by cases z)
        subst ea
        exact k _ _ _ _ h (R.pop.pop.bl _)
      · exact h.elim
    · exact h.elim
theorem gNotN_ok : DOk K B (gIsN true) (fun x y H Q => y = .non ∧ Q (.bl (!decide (x = .non))) H) := fun lv st tm σ tv H x y u v Q0 Q R h k => by
    unfold gIsN at h
    split at h
    · rename_i d e1
      have hv : v = .non := by
        obtain ⟨F, O, R⟩ := R
        exact (R.scal rfl).1 rfl
      refine ⟨hv, ?_⟩
      rw [non_iff R.pop e1]
      exact k _ _ _ _ h (R.pop.pop.bl _)
    · split at h
      · have hv : v = .non := by
          obtain ⟨F, O, R⟩ := R
          exact (R.scal rfl).1 rfl
        refine ⟨hv, ?_⟩
        obtain ⟨F, O, R1⟩ := R.pop
        obtain ⟨a, ea, _⟩ := R1.top (d := .exn _) (fun i z => by cases z)
        subst ea
        exact k _ _ _ _ h (R.pop.pop.bl _)
      · exact h.elim
    · exact h.elim
/-- in, not in: a list, a tuple -/
def rInA (K : PySem.W.Frag) (neg : Bool) : R2 := fun x y H Q => ∃ d ds, Dq K H x d ∧ (Dq K H y (.list ds) ∨ Dq K H y (.tuple ds)) ∧ dep 60 d = true ∧ ds.all (dep 60) = true ∧ Q (.bl (if neg then !ds.any fun z => PyData.eqv z d else ds.any fun z => PyData.eqv z d)) H
def gIn (neg : Bool) : DOp := fun st x y Q => match pyO st x, pyO st y with
  | some d, some (.list ds) => dep 60 d = true ∧ ds.all (dep 60) = true ∧ Q (.fr (.bool (if neg then !ds.any fun z => PyData.eqv z d else ds.any fun z => PyData.eqv z d))) st
  | some d, some (.tuple ds) => dep 60 d = true ∧ ds.all (dep 60) = true ∧ Q (.fr (.bool (if neg then !ds.any fun z => PyData.eqv z d else ds.any fun z => PyData.eqv z d))) st
  | _, _ => False
theorem gIn_ok {neg : Bool} : DOk K B (gIn neg) (rInA K neg) := by
  intro lv st tm σ tv H x y u v Q0 Q R h k
  unfold gIn at h
  split at h
  · rename_i d ds e1 e2
    obtain ⟨s1, s2, q⟩ := h
    exact ⟨d, ds, R.pop.dp e1, .inl (R.dp e2), s1, s2, k _ _ _ _ q (R.pop.pop.bl _)⟩
  · rename_i d ds e1 e2
    obtain ⟨s1, s2, q⟩ := h
    exact ⟨d, ds, R.pop.dp e1, .inr (R.dp e2), s1, s2, k _ _ _ _ q (R.pop.pop.bl _)⟩
  · exact h.elim
theorem op_inA (hu : Un0 X) : OpR X (compareOp .In) (rInA X.K false) := by
  intro pins s σ H x y v u Q I rx ry h
  obtain ⟨d, ds, hd, he, sd, se, q⟩ := h
  obtain ⟨as, r1⟩ := Dq.reads I d x v (dep_nd _ _ sd) hd rx
  have e1 := dep_ok 60 d sd
  have e2 := dep_list se
  have hm : X.A.units + 1 + min (PyData.depthAll ds) d.depth < cLine := by have := e1.2; have : min (PyData.depthAll ds) d.depth ≤ d.depth := Nat.min_le_right _ _; have hu' : X.A.units + 100 < cLine := hu; omega
  rcases he with he | he
  · obtain ⟨bs, r2⟩ := Dq.reads I (.list ds) y u (dep_ndA se) he ry
    exact SeqAt.in_list_data r2 r1 e2.1 e1.1 hm ⟨.bl _, H, I, rfl, q⟩
  · obtain ⟨bs, r2⟩ := Dq.reads I (.tuple ds) y u (dep_ndA se) he ry
    exact SeqAt.in_tuple_data r2 r1 e2.1 e1.1 hm ⟨.bl _, H, I, rfl, q⟩
/-! ### subscripts -/
def gIx : DOp := fun st x y Q => match pyO st x, y with
  | some (.list ds), .fr (.int i) => ∃ d, atI ds i = some d ∧ Q (.fr d) st
  | some (.tuple ds), .fr (.int i) => ∃ d, atI ds i = some d ∧ Q (.fr d) st
  | some (.str z), .fr (.int i) => ∃ c, z.length ≤ sizeLine ∧ atI z.cps.toList i = some c ∧ Q (.fr (.str ⟨#[c]⟩)) st
  | _, _ => False
theorem atI_rp {F : Addr → Prop} {H : Hp} {vs : List V} {ds : List PyData} {i : Int} {d : PyData} (r : RpA K F H vs ds) (h : atI ds i = some d) : ∃ v, atI vs i = some v ∧ Rp K F H v d := by
  unfold atI at h ⊢
  rw [r.length]
  cases e : ixN ds.length i with
  | none => rw [e] at h; cases h
  | some j =>
    rw [e] at h
    exact r.get h
theorem gIx_ok : DOk K B gIx (rIx K) := by
  intro lv st tm σ tv H x y u v Q0 Q R h k
  unfold gIx at h
  split at h
  · rename_i ds i e1
    obtain ⟨d, hd, q⟩ := h
    obtain rfl := R.isInt
    obtain ⟨F, O, R⟩ := R
    obtain ⟨a, vs, rfl, h1, r⟩ := R.pop.lst e1
    obtain ⟨w, hw, rw⟩ := atI_rp r hd
    exact .inl ⟨a, vs, i, w, rfl, rfl, h1, hw, k _ _ _ _ q ⟨F, O, R.pop.pop.push (d := .fr d) rw⟩⟩
  · rename_i ds i e1
    obtain ⟨d, hd, q⟩ := h
    obtain rfl := R.isInt
    obtain ⟨F, O, R⟩ := R
    obtain ⟨a, vs, rfl, h1, r⟩ := R.pop.tup e1
    obtain ⟨w, hw, rw⟩ := atI_rp r hd
    exact .inr (.inl ⟨a, vs, i, w, rfl, rfl, h1, hw, k _ _ _ _ q ⟨F, O, R.pop.pop.push (d := .fr d) rw⟩⟩)
  · rename_i z i e1
    obtain ⟨c, hl, hd, q⟩ := h
    obtain rfl := R.isInt
    have hu : u = .str z := by
      obtain ⟨F, O, R⟩ := R
      exact (R.pop.scal e1).2.2.2 z rfl
    exact .inr (.inr ⟨z, i, c, hu, rfl, hl, hd, k _ _ _ _ q (R.pop.pop.str _)⟩)
  · exact h.elim
theorem de_sub' (ha : DE X B lk a ta) (hb : DE X B lk b tb) (hs : PlainIx b := by exact fun _ _ => rfl) : DE X B lk (.Subscript a b pos) (c2 gIx ta tb) := de_ix ix_seq gIx_ok ha hb hs

/-! ### unary minus -/
def c1 (g : List Vl → Vl → (Vl → List Vl → Prop) → Prop) (ta : DT) : DT := fun st Q => ta st fun x st1 => g st1 x Q
def gNeg : List Vl → Vl → (Vl → List Vl → Prop) → Prop := fun st x Q => match x with
  | .fr (.int i) => Q (.fr (.int (-i))) st
  | _ => False
theorem de_neg (ha : DE X B lk a ta) : DE X B lk (.UnaryOp .USub a pos) (c1 gNeg ta) := PE.weak (pe_un un_neg ha) fun σ H Q ⟨lv, st, tm, tv, Q0, L, R, h, k⟩ => by
  refine ⟨lv, st, tm, tv, _, L, R, h, fun d st' v H' q R' => ?_⟩
  unfold gNeg at q
  split at q
  · obtain rfl := R'.isInt
    exact ⟨_, rfl, k _ _ _ _ q (R'.pop.int _)⟩
  · exact q.elim

/-! ### tests -/
def cTst (t : DT) : DTT := fun st Q => t st fun d st' => match d with
  | .fr (.bool b) => Q b st'
  | _ => False
theorem le_tst {K : PySem.W.Frag} {t : DT} {σ : L2.St} {H : Hp} {Q : Bool → Hp → Prop} (h : LT K B lk (cTst t) σ H Q) : LE K B lk t σ H (fun x H1 => ∃ c, x = .bl c ∧ Q c H1) := by
  obtain ⟨lv, st, tm, tv, Q0, L, R, h, k⟩ := h
  refine ⟨lv, st, tm, tv, _, L, R, h, fun d st' v H' q R' => ?_⟩
  try dsimp only at q
  split at q
  · obtain rfl := R'.isBl
    exact ⟨_, rfl, k _ _ _ q R'.pop⟩
  · exact q.elim
theorem dc_val {t : DT} (h : DE X B lk e t) (he : ∀ whole, isTrue e X.env whole = (do let v ← whole; standAt e.pos; holding [v] (truthy v)) := by intro _; rfl) : DC X B lk e (cTst t) := PT.weak (pt_val h he) fun σ H Q q => le_tst q
theorem dc_cmp {op : CmpOp} {r : R2} {g : DOp} (ho : OpR X (compareOp op) r) (ok : DOk X.K B g r) (ha : DE X B lk a ta) (hb : DE X B lk b tb) (hm : behindInMarks op b = false) : DC X B lk (.Compare a [op] [b] pos) (cTst (c2 g ta tb)) :=
  PT.weak (pt_cmpR ho ha hb hm) fun σ H Q ⟨lv, st, tm, tv, Q0, L, R, h, k⟩ => by
    refine c2_weak ok ⟨lv, st, tm, tv, _, L, R, h, fun d st' v H' q R' => ?_⟩
    try dsimp only at q
    split at q
    · obtain rfl := R'.isBl
      exact ⟨_, rfl, k _ _ _ q R'.pop⟩
    · exact q.elim
theorem dc_lt (ha : DE X B lk a ta) (hb : DE X B lk b tb) : DC X B lk (.Compare a [.Lt] [b] pos) (cTst (c2 (gI (fun _ _ => True) fun i j => .bool (decide (i < j))) ta tb)) := dc_cmp op_lt gI_okb ha hb (nomark _)
theorem dc_gt (ha : DE X B lk a ta) (hb : DE X B lk b tb) : DC X B lk (.Compare a [.Gt] [b] pos) (cTst (c2 (gI (fun _ _ => True) fun i j => .bool (decide (j < i))) ta tb)) := dc_cmp op_gt gI_okb ha hb (nomark _)
theorem dc_ge (ha : DE X B lk a ta) (hb : DE X B lk b tb) : DC X B lk (.Compare a [.GtE] [b] pos) (cTst (c2 (gI (fun _ _ => True) fun i j => .bool (decide (j ≤ i))) ta tb)) := dc_cmp op_ge gI_okb ha hb (nomark _)
theorem dc_eq (hu : Un0 X) (ha : DE X B lk a ta) (hb : DE X B lk b tb) : DC X B lk (.Compare a [.Eq] [b] pos) (cTst (c2 (gEq false) ta tb)) := dc_cmp (op_eqP hu) gEq_ok ha hb (nomark _)
theorem dc_ne (hu : Un0 X) (ha : DE X B lk a ta) (hb : DE X B lk b tb) : DC X B lk (.Compare a [.NotEq] [b] pos) (cTst (c2 (gEq true) ta tb)) := dc_cmp (op_neP hu) gEq_ok ha hb (nomark _)
theorem dc_isN (ha : DE X B lk a ta) (hb : DE X B lk b tb) : DC X B lk (.Compare a [.Is] [b] pos) (cTst (c2 (gIsN false) ta tb)) := dc_cmp op_isN gIsN_ok ha hb (nomark _)
theorem dc_notN (ha : DE X B lk a ta) (hb : DE X B lk b tb) : DC X B lk (.Compare a [.IsNot] [b] pos) (cTst (c2 (gIsN true) ta tb)) := dc_cmp op_notN gNotN_ok ha hb (nomark _)
theorem dc_in (hu : Un0 X) (ha : DE X B lk a ta) (hb : DE X B lk b tb) (hm : behindInMarks .In b = false := by rfl) : DC X B lk (.Compare a [.In] [b] pos) (cTst (c2 (gIn false) ta tb)) := dc_cmp (op_inA hu) gIn_ok ha hb hm
variable {tA tB' : DTT}
def cAnd (t u : DTT) : DTT := fun st Q => t st fun c st1 => if c = true then u st1 Q else Q false st1
def cOr (t u : DTT) : DTT := fun st Q => t st fun c st1 => if c = true then Q true st1 else u st1 Q
def cNot (t : DTT) : DTT := fun st Q => t st fun c st1 => Q (!c) st1
theorem dw_and1 (ha : DC X B lk a tA) : DW X B lk (.BoolOp .And [a] pos) tA := pw_and1 ha
theorem dw_or1 (ha : DC X B lk a tA) : DW X B lk (.BoolOp .Or [a] pos) tA := pw_or1 ha
theorem dw_and (ha : DC X B lk a tA) (hb : DW X B lk (.BoolOp .And (b :: rest) pos) tB') : DW X B lk (.BoolOp .And (a :: b :: rest) pos) (cAnd tA tB') := PW.weak (pw_and ha hb) fun σ H Q ⟨lv, st, tm, tv, Q0, L, R, h, k⟩ => by
  refine ⟨lv, st, tm, tv, _, L, R, h, fun c st' H' q R' => ?_⟩
  cases c with
  | true => rw [if_pos rfl] at q ⊢; exact ⟨lv, st', tm, tv, Q0, L, R', q, k⟩
  | false => rw [if_neg Bool.false_ne_true] at q ⊢; exact k _ _ _ q R'
theorem dw_or (ha : DC X B lk a tA) (hb : DW X B lk (.BoolOp .Or (b :: rest) pos) tB') : DW X B lk (.BoolOp .Or (a :: b :: rest) pos) (cOr tA tB') := PW.weak (pw_or ha hb) fun σ H Q ⟨lv, st, tm, tv, Q0, L, R, h, k⟩ => by
  refine ⟨lv, st, tm, tv, _, L, R, h, fun c st' H' q R' => ?_⟩
  cases c with
  | true => rw [if_pos rfl] at q ⊢; exact k _ _ _ q R'
  | false => rw [if_neg Bool.false_ne_true] at q ⊢; exact ⟨lv, st', tm, tv, Q0, L, R', q, k⟩
theorem dc_not (ha : DC X B lk a tA) : DC X B lk (.UnaryOp .Not a pos) (cNot tA) := PT.weak (pt_not ha) fun σ H Q ⟨lv, st, tm, tv, Q0, L, R, h, k⟩ =>
  ⟨lv, st, tm, tv, _, L, R, h, fun c st' H' q R' => k _ _ _ q R'⟩
/-- .. as values -/
def cAndV (ta tb : DT) : DT := fun st Q => ta st fun d st1 => match d with
  | .fr (.bool c) => if c = true then tb st1 Q else Q (.fr (.bool false)) st1
  | _ => False
def cOrV (ta tb : DT) : DT := fun st Q => ta st fun d st1 => match d with
  | .fr (.bool c) => if c = true then Q (.fr (.bool true)) st1 else tb st1 Q
  | _ => False
theorem de_one {op} (h : DE X B lk a ta) : DE X B lk (.BoolOp op [a] pos) ta := pe_one h
theorem de_and (ha : DE X B lk a ta) (hb : DE X B lk (.BoolOp .And (b :: rest) pos) tb) : DE X B lk (.BoolOp .And (a :: b :: rest) pos) (cAndV ta tb) := PE.weak (pe_and ha hb) fun σ H Q ⟨lv, st, tm, tv, Q0, L, R, h, k⟩ => by
  refine ⟨lv, st, tm, tv, _, L, R, h, fun d st' v H' q R' => ?_⟩
  try dsimp only at q
  split at q
  · rename_i c
    obtain rfl := R'.isBl
    refine ⟨c, rfl, ?_⟩
    cases c with
    | true => rw [if_pos rfl] at q ⊢; exact ⟨lv, st', tm, tv, Q0, L, R'.pop, q, k⟩
    | false => rw [if_neg Bool.false_ne_true] at q ⊢; exact k _ _ _ _ q (R'.pop.bl _)
  · exact q.elim
theorem de_or (ha : DE X B lk a ta) (hb : DE X B lk (.BoolOp .Or (b :: rest) pos) tb) : DE X B lk (.BoolOp .Or (a :: b :: rest) pos) (cOrV ta tb) := PE.weak (pe_or ha hb) fun σ H Q ⟨lv, st, tm, tv, Q0, L, R, h, k⟩ => by
  refine ⟨lv, st, tm, tv, _, L, R, h, fun d st' v H' q R' => ?_⟩
  try dsimp only at q
  split at q
  · rename_i c
    obtain rfl := R'.isBl
    refine ⟨c, rfl, ?_⟩
    cases c with
    | true => rw [if_pos rfl] at q ⊢; exact k _ _ _ _ q (R'.pop.bl _)
    | false => rw [if_neg Bool.false_ne_true] at q ⊢; exact ⟨lv, st', tm, tv, Q0, L, R'.pop, q, k⟩
  · exact q.elim
/-- a if c else b -/
def cIf (t : DTT) (ta tb : DT) : DT := fun st Q => t st fun c st1 => if c = true then ta st1 Q else tb st1 Q
theorem de_if {c : Expr} (hc : DC X B lk c tA) (ha : DE X B lk a ta) (hb : DE X B lk b tb) : DE X B lk (.IfExp c a b pos) (cIf tA ta tb) := PE.weak (pe_ifExp hc ha hb) fun σ H Q ⟨lv, st, tm, tv, Q0, L, R, h, k⟩ => by
  refine ⟨lv, st, tm, tv, _, L, R, h, fun c st' H' q R' => ?_⟩
  cases c with
  | true => rw [if_pos rfl] at q ⊢; exact ⟨lv, st', tm, tv, Q0, L, R', q, k⟩
  | false => rw [if_neg Bool.false_ne_true] at q ⊢; exact ⟨lv, st', tm, tv, Q0, L, R', q, k⟩
/-- a chain of two comparisons of ints -/
def cCh (p q : Int → Int → Bool) (ta tb tc : DT) : DT := fun st Q => ta st fun x st1 => tb st1 fun y st2 => match x, y with
  | .fr (.int i), .fr (.int j) => if p i j = true then tc st2 fun z st3 => (match z with | .fr (.int k) => Q (.fr (.bool (q j k))) st3 | _ => False) else Q (.fr (.bool false)) st2
  | _, _ => False
theorem ch_weak {K : PySem.W.Frag} {p q : Int → Int → Bool} {tc : DT} {σ : L2.St} {H : Hp} {Q : VK} (h : LE K B lk (cCh p q ta tb tc) σ H Q) :
    tChain (rI0 fun i j => .bl (p i j)) (rI0 fun i j => .bl (q i j)) (LE K B lk ta) (LE K B lk tb) (LE K B lk tc) σ H Q := by
  obtain ⟨lv, st, tm, tv, Q0, L, R, h, k⟩ := h
  refine ⟨lv, st, tm, tv, _, L, R, h, fun x st1 u H1 h1 R1 => ?_⟩
  refine ⟨lv, st1, x :: tm, u :: tv, _, L, R1, h1, fun y st2 v H2 h2 R2 => ?_⟩
  try dsimp only at h2
  split at h2
  · rename_i i j
    obtain rfl := R2.isInt
    obtain rfl := R2.pop.isInt
    refine ⟨i, j, rfl, rfl, _, rfl, ?_⟩
    by_cases c : p i j = true
    · rw [if_pos c] at h2 ⊢
      refine ⟨lv, st2, _, _, _, L, R2, h2, fun z st3 w H3 h3 R3 => ?_⟩
      try dsimp only at h3
      split at h3
      · obtain rfl := R3.isInt
        exact ⟨_, _, rfl, rfl, k _ _ _ _ h3 (R3.pop.pop.pop.bl _)⟩
      · exact h3.elim
    · rw [if_neg c] at h2 ⊢
      exact k _ _ _ _ h2 (R2.pop.pop.bl _)
  · exact h2.elim
theorem de_ch {op op' : CmpOp} {p q : Int → Int → Bool} {c : Expr} {tc : DT} (ho : OpR X (compareOp op) (rI0 fun i j => .bl (p i j))) (ho' : OpR X (compareOp op') (rI0 fun i j => .bl (q i j))) (ha : DE X B lk a ta) (hb : DE X B lk b tb) (hc : DE X B lk c tc)
    (hm : lastMarks [op, op'] [b, c] = false := by with_unfolding_all rfl) : DE X B lk (.Compare a [op, op'] [b, c] pos) (cCh p q ta tb tc) := PE.weak (pe_chain ho ho' ha hb hc hm) fun _ _ _ h => ch_weak h
theorem dc_ch {op op' : CmpOp} {p q : Int → Int → Bool} {c : Expr} {tc : DT} (ho : OpR X (compareOp op) (rI0 fun i j => .bl (p i j))) (ho' : OpR X (compareOp op') (rI0 fun i j => .bl (q i j))) (ha : DE X B lk a ta) (hb : DE X B lk b tb) (hc : DE X B lk c tc)
    (hm : lastMarks [op, op'] [b, c] = false := by with_unfolding_all rfl) : DC X B lk (.Compare a [op, op'] [b, c] pos) (cTst (cCh p q ta tb tc)) := PT.weak (pt_chain ho ho' ha hb hc hm) fun σ H Q h => by
  have h' : LE X.K B lk (cCh p q ta tb tc) σ H (fun x H1 => ∃ c, x = .bl c ∧ Q c H1) := le_tst h
  exact ch_weak h'

/-! ### argument lists, displays -/
def cNil : DTA := fun st Q => Q [] st
def cCons (ta : DT) (tr : DTA) : DTA := fun st Q => ta st fun x st1 => tr st1 fun xs st2 => Q (x :: xs) st2
theorem da_nil : DA X B lk [] cNil := PA.weak pa_nil fun σ H Q ⟨lv, st, tm, tv, Q0, L, R, h, k⟩ => k [] st [] H h rfl R
theorem da_cons {t : DTA} (ha : DE X B lk e ta) (hr : DA X B lk es t) (hs : starEach (e :: es) X.env = (false, eval e X.env) :: starEach es X.env := by rfl) : DA X B lk (e :: es) (cCons ta t) :=
  PA.weak (pa_cons ha hr hs) fun σ H Q ⟨lv, st, tm, tv, Q0, L, R, h, k⟩ => by
    refine ⟨lv, st, tm, tv, _, L, R, h, fun x st1 u H1 h1 R1 => ?_⟩
    refine ⟨lv, st1, x :: tm, u :: tv, _, L, R1, h1, fun xs st2 us H2 h2 hl R2 => ?_⟩
    refine k (x :: xs) st2 (u :: us) H2 h2 (congrArg (· + 1) hl) ?_
    rw [List.reverse_cons, List.reverse_cons, List.append_assoc, List.append_assoc]
    exact R2
def frs : List Vl → Option (List PyData)
  | [] => some []
  | .fr d :: ds => (frs ds).map (d :: ·)
  | _ :: _ => none
theorem frs_eq : ∀ {ds : List Vl} {xs : List PyData}, frs ds = some xs → ds = xs.map Vl.fr
  | [], xs, h => by cases h; rfl
  | .fr d :: ds, xs, h => by
    unfold frs at h
    cases e : frs ds with
    | none => rw [e] at h; cases h
    | some ys =>
      rw [e] at h
      cases h
      rw [frs_eq e]; rfl
  | .ow _ :: _, _, h => by cases h
  | .dk _ :: _, _, h => by cases h
  | .cst _ :: _, _, h => by cases h
  | .scr _ :: _, _, h => by cases h
  | .exn _ :: _, _, h => by cases h
  | .un _ :: _, _, h => by cases h
  | .bor _ :: _, _, h => by cases h
  | .gone :: _, _, h => by cases h
/-- a tuple, a list of frozen items -/
def cTup (t : DTA) : DT := fun st Q => t st fun ds st' => match frs ds with
  | some xs => xs.length ≤ sizeLine ∧ Q (.fr (.tuple xs)) st'
  | none => False
def cLst (t : DTA) : DT := fun st Q => t st fun ds st' => match frs ds with
  | some xs => xs.length ≤ sizeLine ∧ Q (.ow xs) st'
  | none => False
theorem de_tup {x1} {t : DTA} (h : DA X B lk es t) : DE X B lk (.Tuple es x1 pos) (cTup t) := PE.weak (pe_tup h) fun σ H Q ⟨lv, st, tm, tv, Q0, L, R, h, k⟩ => by
  refine ⟨lv, st, tm, tv, _, L, R, h, fun ds st' vs H' q hl R' => ?_⟩
  try dsimp only at q
  cases e : frs ds with
  | none => rw [e] at q; exact q.elim
  | some xs =>
    rw [e] at q
    obtain rfl := frs_eq e
    obtain ⟨F, O, R'⟩ := R'
    obtain ⟨r, R2⟩ := R'.frs (by simpa using hl)
    exact ⟨by rw [r.length]; exact q.1, fun p hp => k _ _ _ _ q.2 ⟨F, _, R2.newTup hp r⟩⟩
theorem de_lst {t : DTA} (h : DA X B lk es t) : DE X B lk (.List es pos) (cLst t) := PE.weak (pe_lst h) fun σ H Q ⟨lv, st, tm, tv, Q0, L, R, h, k⟩ => by
  refine ⟨lv, st, tm, tv, _, L, R, h, fun ds st' vs H' q hl R' => ?_⟩
  try dsimp only at q
  cases e : frs ds with
  | none => rw [e] at q; exact q.elim
  | some xs =>
    rw [e] at q
    obtain rfl := frs_eq e
    obtain ⟨F, O, R'⟩ := R'
    obtain ⟨r, R2⟩ := R'.frs (by simpa using hl)
    exact ⟨by rw [r.length]; exact q.1, fun p hp => k _ _ _ _ q.2 ⟨F, _, R2.newLst hp r⟩⟩
end
end DL

/-! The data layer, part 4: the call of a def; a def's promise over data. -/
namespace DL
open PySem PySem.Spec PyProof.Rows L2

/-- an exception of the program: its class, its attribute at -/
structure Xn where
  cls : Str
  at_ : Option PyData
def XnR (K : PySem.W.Frag) (mg : Str → Option Value) (F : Addr → Prop) (H : Hp) (x : Xn) (cls : Value) (d : Option Addr) : Prop :=
  cls = .ref (He.ga K x.cls) ∧ match x.at_ with
  | none => d = none
  | some p => ∃ dd v, d = some dd ∧ H dd = some (.xd [("at", v)]) ∧ Rp K F H v p
/-- a def's promise over data: the arguments, what is wanted of the result and the arguments behind, what is wanted of an exception -/
abbrev VSp := List Vl → (Vl → List Vl → Prop) → (Xn → List Vl → Prop) → Prop
structure Pre (K : PySem.W.Frag) (F0 : Addr → Prop) (O0 : Addr → Option Nat) (ds : List Vl) (vs : List V) (H : Hp) : Prop where
  len : ds.length = vs.length
  av : ∀ i d v, ds[i]? = some d → vs[i]? = some v → d = .gone ∨ VR K F0 (fun a => (O0 a).map Sum.inl) H (.inl i) v d
  fo : ∀ a, F0 a → O0 a = none
  fh : ∀ a, F0 a → H a ≠ none
  oh : ∀ a i, O0 a = some i → ∃ o, H a = some o ∧ ¬ Stl o
structure Post (K : PySem.W.Frag) (F0 : Addr → Prop) (O0 : Addr → Option Nat) (vs : List V) (H : Hp) (lk : List Nat) (ds' : List Vl) (H' : Hp) (F' : Addr → Prop) (O' : Addr → Option Ow) : Prop where
  av : ∀ i ∈ lk, ∀ d v, ds'[i]? = some d → vs[i]? = some v → d = .gone ∨ VR K F' O' H' (.inl i) v d
  fo : ∀ a, F' a → O' a = none
  oh : ∀ a w, O' a = some w → ∃ o, H' a = some o ∧ ¬ Stl o
  fh : ∀ a, F' a → H' a ≠ none
  fr : ∀ a o, H a = some o → O0 a = none → H' a = some o
  mi : ∀ a w, O' a = some w → O0 a ≠ none ∨ H a = none
  f0 : ∀ a, F0 a → F' a
  f1 : ∀ a, F' a → F0 a ∨ H a = none ∨ O0 a ≠ none
def spV (K : PySem.W.Frag) (mg : Str → Option Value) (lk : List Nat) (n : Nat) (S : VSp) : Sp := fun vs H Q E => vs.length = n ∧ ∃ F0 O0 ds Q0 E0, Pre K F0 O0 ds vs H ∧ S ds Q0 E0 ∧
  (∀ r ds' v H' F' O', Q0 r ds' → Post K F0 O0 vs H lk ds' H' F' O' → VR K F' O' H' (.inr 0) v r → Q v H') ∧
  (∀ x ds' cls d H' F' O', E0 x ds' → Post K F0 O0 vs H lk ds' H' F' O' → XnR K mg F' H' x cls d → E cls d H')
/-- the promise of a def where no repr is under way -/
structure FnG (P : Program) (w : World) (K : PySem.W.Frag) (mg : Str → Option Value) (base : Heap) (CX : CXT) (k : Nat) (f : Addr) (fd : FuncData) (ps : List Str) (sp : Sp) : Prop where
  len : ∀ vs H Q E, sp vs H Q E → vs.length = ps.length
  run : ∀ (A : Around) (outer : List Env) (s : Shared) (H : Hp) (args : Args) (us : List Value) (vs : List V) (Q : VK) (E : XK), Room k A → A.guards = some [] → Env0 P w K mg base A outer s H → BindsTo s fd args (ps.zip us) → Vals vs us → sp vs H Q E →
    codeAny (model P w) A (.call (.ref f) args) (CR CX outer P w H s Q E) s
section
variable {X : Cx} {CX : CXT} {k : Nat} {f : Addr} {fd : FuncData} {ps : List Str} {sp : Sp} {E : XK} {x : Str} {p pos : Pos} {e : Expr} {es : List Expr} {t : TA}
theorem run_fnG {pins : List (Addr × Obj)} {σ : L2.St} {H : Hp} {s : Shared} {Q : VK} {us : List Value} {vs : List V} (F : FnG X.prog X.w X.K X.mg X.base CX k f fd ps sp) (hr : Room k X.A) (hgd : X.A.guards = some []) (hb : Binds X.K fd ps []) (hx : Passes CX X E)
    (I : Inv X pins σ H s) (r : Vals vs us) (h : sp vs H Q E) : wpAny (model X.prog X.w) X.A (call (.ref f) us) (EP X pins σ Q) X.xe s := by
  have hl : us.length = ps.length := by rw [← r.length]; exact F.len _ _ _ _ h
  have hb' := hb s us I.kIn (by rw [List.append_nil]; exact hl)
  rw [List.append_nil] at hb'
  refine wpAny_call (codeAny_mono (F.run X.A X.stack s H ⟨us, []⟩ us vs Q E hr hgd I.env0 hb' r h) fun r s' hq => ?_)
  match r, hq with
  | .error e, hq => exact hx pins σ H s e s' I hq
  | .ok (.ret u), hq => exact I.after hq
  | .ok .next, hq => exact False.elim hq
  | .ok .brk, hq => exact False.elim hq
  | .ok .cont, hq => exact False.elim hq
def tCallG (sp : Sp) (E : XK) (t : TA) : TE := fun σ H Q => t σ H fun vs H1 => sp vs H1 Q E
theorem pe_callG (F : FnG X.prog X.w X.K X.mg X.base CX k f fd ps sp) (hr : Room k X.A) (hgd : X.A.guards = some []) (hg : Gl X x) (hm : X.mg x = some (.ref f)) (hk : PySem.W.keepIn X.K (.ref f) = true) (hb : Binds X.K fd ps []) (hx : Passes CX X E)
    (ha : PA X (e :: es) t) (hdb : (x == ("__debug__" : Str)) = false := by decide) (he : starEach (e :: es) X.env = (false, eval e X.env) :: starEach es X.env := by rfl) (hpl : (backTo pos (starEach es X.env)).any (·.1) = false := by rfl) :
    PE X (.Call (.Name x p) (e :: es) [] pos) (tCallG sp E t) := by
  refine ⟨fun pins s σ H Q I h => ?_⟩
  refine wpAny_Call_Name_kw (ld_glob I hg hm ?_ hdb)
  refine PySem.W.callWith_K (h₀ := X.base) I.ok.mod.kin hk (thn (ha.run pos pins s σ H _ I h) fun us s1 ⟨vs, H1, I1, r, q⟩ => ⟨I1.kIn, ?_⟩) he hpl
  exact run_fnG F hr hgd hb hx I1 r q
end
/-- the def x of the module keeps S; CX: what it lets out -/
structure Def (P : Program) (w : World) (K : PySem.W.Frag) (mg : Str → Option Value) (base : Heap) (CX : CXT) (k : Nat) (x : Str) (lk : List Nat) (n : Nat) (S : VSp) : Prop where
  ex : ∃ f fd ps, mg x = some (.ref f) ∧ FnG P w K mg base CX k f fd ps (spV K mg lk n S) ∧ Binds K fd ps [] ∧ PySem.W.keepIn K (.ref f) = true

/-! ### the caller's side -/
def isB (i : Nat) : Vl → Bool
  | .bor j => i == j
  | _ => false
/-- what stands behind an alias -/
def res (st : List Vl) : Vl → Vl
  | .bor i => (st[i]?).getD .gone
  | d => d
/-- the aliases' slots behind a call -/
def upds (ds' : List Vl) : Nat → List Vl → List Vl → List Vl
  | _, [], st => st
  | j, .bor i :: ds, st => upds ds' (j + 1) ds (st.set i ((ds'[j]?).getD .gone))
  | j, _ :: ds, st => upds ds' (j + 1) ds st
/-- aliases stand only where the def gives back, each once -/
def okB (lk : List Nat) : Nat → List Vl → Bool
  | _, [] => true
  | j, .bor i :: ds => lk.contains j && !(ds.any (isB i)) && okB lk (j + 1) ds
  | j, _ :: ds => okB lk (j + 1) ds
theorem upds_len (ds' : List Vl) : ∀ (ds : List Vl) (j : Nat) (st : List Vl), (upds ds' j ds st).length = st.length
  | [], _, _ => rfl
  | .bor i :: ds, j, st => by rw [upds, upds_len ds' ds, List.length_set]
  | .fr _ :: ds, j, st => upds_len ds' ds _ _
  | .ow _ :: ds, j, st => upds_len ds' ds _ _
  | .dk _ :: ds, j, st => upds_len ds' ds _ _
  | .cst _ :: ds, j, st => upds_len ds' ds _ _
  | .scr _ :: ds, j, st => upds_len ds' ds _ _
  | .exn _ :: ds, j, st => upds_len ds' ds _ _
  | .un _ :: ds, j, st => upds_len ds' ds _ _
  | .gone :: ds, j, st => upds_len ds' ds _ _
theorem upds_out (ds' : List Vl) {i : Nat} : ∀ (ds : List Vl) (j : Nat) (st : List Vl), ds.any (isB i) = false → (upds ds' j ds st)[i]? = st[i]?
  | [], _, _, _ => rfl
  | .bor k :: ds, j, st, h => by
    rw [List.any_cons, Bool.or_eq_false_iff] at h
    rw [upds, upds_out ds' ds _ _ h.2, List.getElem?_set_ne]
    have := h.1
    intro e
    subst e
    simp [isB] at this
  | .fr _ :: ds, j, st, h => upds_out ds' ds _ _ (by simpa [isB] using h)
  | .ow _ :: ds, j, st, h => upds_out ds' ds _ _ (by simpa [isB] using h)
  | .dk _ :: ds, j, st, h => upds_out ds' ds _ _ (by simpa [isB] using h)
  | .cst _ :: ds, j, st, h => upds_out ds' ds _ _ (by simpa [isB] using h)
  | .scr _ :: ds, j, st, h => upds_out ds' ds _ _ (by simpa [isB] using h)
  | .exn _ :: ds, j, st, h => upds_out ds' ds _ _ (by simpa [isB] using h)
  | .un _ :: ds, j, st, h => upds_out ds' ds _ _ (by simpa [isB] using h)
  | .gone :: ds, j, st, h => upds_out ds' ds _ _ (by simpa [isB] using h)
theorem upds_in (ds' : List Vl) {lk : List Nat} {i : Nat} : ∀ (ds : List Vl) (j : Nat) (st : List Vl), okB lk j ds = true → i < st.length → ds.any (isB i) = true → ∃ m, ds[m]? = some (.bor i) ∧ (j + m) ∈ lk ∧ (upds ds' j ds st)[i]? = some ((ds'[j + m]?).getD .gone)
  | [], _, _, _, _, h => by simp at h
  | .bor k :: ds, j, st, ok, hi, h => by
    rw [okB, Bool.and_eq_true, Bool.and_eq_true] at ok
    by_cases e : i = k
    · subst e
      refine ⟨0, rfl, by simpa using ok.1.1, ?_⟩
      rw [upds, upds_out ds' ds _ _ (by simpa using ok.1.2), List.getElem?_set_self hi]
      rfl
    · rw [List.any_cons] at h
      have h2 : ds.any (isB i) = true := by
        have : isB i (.bor k) = false := by simp [isB, e]
        rw [this, Bool.false_or] at h; exact h
      obtain ⟨m, e1, e2, e3⟩ := upds_in ds' ds (j + 1) (st.set k ((ds'[j]?).getD .gone)) ok.2 (by rw [List.length_set]; exact hi) h2
      exact ⟨m + 1, e1, by rw [show j + (m + 1) = j + 1 + m by omega]; exact e2, by rw [show j + (m + 1) = j + 1 + m by omega]; exact e3⟩
  | .fr _ :: ds, j, st, ok, hi, h => by
    obtain ⟨m, e1, e2, e3⟩ := upds_in ds' ds (j + 1) st ok hi (by simpa [isB] using h)
    exact ⟨m + 1, e1, by rw [show j + (m + 1) = j + 1 + m by omega]; exact e2, by rw [show j + (m + 1) = j + 1 + m by omega]; exact e3⟩
  | .ow _ :: ds, j, st, ok, hi, h => by
    obtain ⟨m, e1, e2, e3⟩ := upds_in ds' ds (j + 1) st ok hi (by simpa [isB] using h)
    exact ⟨m + 1, e1, by rw [show j + (m + 1) = j + 1 + m by omega]; exact e2, by rw [show j + (m + 1) = j + 1 + m by omega]; exact e3⟩
  | .dk _ :: ds, j, st, ok, hi, h => by
    obtain ⟨m, e1, e2, e3⟩ := upds_in ds' ds (j + 1) st ok hi (by simpa [isB] using h)
    exact ⟨m + 1, e1, by rw [show j + (m + 1) = j + 1 + m by omega]; exact e2, by rw [show j + (m + 1) = j + 1 + m by omega]; exact e3⟩
  | .cst _ :: ds, j, st, ok, hi, h => by
    obtain ⟨m, e1, e2, e3⟩ := upds_in ds' ds (j + 1) st ok hi (by simpa [isB] using h)
    exact ⟨m + 1, e1, by rw [show j + (m + 1) = j + 1 + m by omega]; exact e2, by rw [show j + (m + 1) = j + 1 + m by omega]; exact e3⟩
  | .scr _ :: ds, j, st, ok, hi, h => by
    obtain ⟨m, e1, e2, e3⟩ := upds_in ds' ds (j + 1) st ok hi (by simpa [isB] using h)
    exact ⟨m + 1, e1, by rw [show j + (m + 1) = j + 1 + m by omega]; exact e2, by rw [show j + (m + 1) = j + 1 + m by omega]; exact e3⟩
  | .exn _ :: ds, j, st, ok, hi, h => by
    obtain ⟨m, e1, e2, e3⟩ := upds_in ds' ds (j + 1) st ok hi (by simpa [isB] using h)
    exact ⟨m + 1, e1, by rw [show j + (m + 1) = j + 1 + m by omega]; exact e2, by rw [show j + (m + 1) = j + 1 + m by omega]; exact e3⟩
  | .un _ :: ds, j, st, ok, hi, h => by
    obtain ⟨m, e1, e2, e3⟩ := upds_in ds' ds (j + 1) st ok hi (by simpa [isB] using h)
    exact ⟨m + 1, e1, by rw [show j + (m + 1) = j + 1 + m by omega]; exact e2, by rw [show j + (m + 1) = j + 1 + m by omega]; exact e3⟩
  | .gone :: ds, j, st, ok, hi, h => by
    obtain ⟨m, e1, e2, e3⟩ := upds_in ds' ds (j + 1) st ok hi (by simpa [isB] using h)
    exact ⟨m + 1, e1, by rw [show j + (m + 1) = j + 1 + m by omega]; exact e2, by rw [show j + (m + 1) = j + 1 + m by omega]; exact e3⟩

section
variable {K : PySem.W.Frag} {B : Ba} {lv : List (Nat × V)} {st tm : List Vl} {σ : L2.St} {tv : List V} {H H' : Hp} {F F' : Addr → Prop} {O O' : Addr → Option Ow} {v : V} {d : Vl} {a p : Addr}
/-- the j-th of the temps that were laid last -/
theorem RelX.argAt : ∀ {ds : List Vl} {vs : List V} {tm : List Vl} {tv : List V} {j : Nat} {d : Vl} {v : V}, vs.length = ds.length → RelX K B lv st (ds.reverse ++ tm) σ (vs.reverse ++ tv) H F O → ds[j]? = some d → vs[j]? = some v →
    (∃ i, d = .bor i ∧ σ[i]? = some (some v)) ∨ VR K F O H (.inr (tm.length + j)) v d
  | [], [], _, _, _, _, _, _, _, e, _ => by simp at e
  | x :: ds, u :: vs, tm, tv, j, d, v, hl, R, e1, e2 => by
    rw [List.reverse_cons, List.reverse_cons, List.append_assoc, List.append_assoc] at R
    cases j with
    | zero =>
      simp at e1 e2
      subst e1 e2
      have : ∀ {ds : List Vl} {vs : List V} {tm : List Vl} {tv : List V}, vs.length = ds.length → RelX K B lv st (ds ++ tm) σ (vs ++ tv) H F O → RelX K B lv st tm σ tv H F O := by
        intro ds
        induction ds with
        | nil => intro vs tm tv h R; cases vs with
          | nil => exact R
          | cons _ _ => cases h
        | cons y ds ih => intro vs tm tv h R; cases vs with
          | nil => cases h
          | cons z vs => exact ih (Nat.succ.inj h) R.pop
      have R' : RelX K B lv st (x :: tm) σ (u :: tv) H F O := this (by simp only [List.length_reverse]; exact Nat.succ.inj hl) R
      exact R'.tp.1
    | succ j =>
      have := RelX.argAt (j := j) (Nat.succ.inj hl) R (by simpa using e1) (by simpa using e2)
      rw [List.length_append, List.length_singleton] at this
      rw [show tm.length + (j + 1) = 1 + tm.length + j by omega]
      exact this
  | [], _ :: _, _, _, _, _, _, h, _, _, _ => by cases h
  | _ :: _, [], _, _, _, _, _, h, _, _, _ => by cases h
theorem RelX.popAll {ds : List Vl} : ∀ {vs : List V}, vs.length = ds.length → RelX K B lv st (ds ++ tm) σ (vs ++ tv) H F O → RelX K B lv st tm σ tv H F O := by
  induction ds with
  | nil => intro vs h R; cases vs with
    | nil => exact R
    | cons _ _ => cases h
  | cons y ds ih => intro vs h R; cases vs with
    | nil => cases h
    | cons z vs => exact ih (Nat.succ.inj h) R.pop
/-- which argument owns an address -/
def argO (ds : List Vl) (n : Nat) (O : Addr → Option Ow) : Addr → Option Nat := fun a => match O a with
  | some (.inr m) => if n ≤ m ∧ m < n + ds.length then some (m - n) else none
  | some (.inl i) => if ds.any (isB i) = true then ds.findIdx? (isB i) else none
  | none => none
theorem argO_some {ds : List Vl} {n i : Nat} (h : argO ds n O a = some i) : ∃ w, O a = some w := by
  unfold argO at h
  cases e : O a with
  | none => rw [e] at h; cases h
  | some w => exact ⟨w, rfl⟩
theorem okB_first {lk : List Nat} {i : Nat} : ∀ {ds : List Vl} {j m : Nat}, okB lk j ds = true → ds[m]? = some (.bor i) → ds.findIdx? (isB i) = some m
  | [], _, _, _, e => by simp at e
  | d :: ds, j, 0, ok, e => by
    simp at e; subst e
    rw [List.findIdx?_cons, show isB i (.bor i) = true by simp [isB]]
    rfl
  | d :: ds, j, m + 1, ok, e => by
    have e' : ds[m]? = some (.bor i) := by simpa using e
    have hin : ds.any (isB i) = true := List.any_eq_true.mpr ⟨_, List.mem_of_getElem? e', by simp [isB]⟩
    have hd : isB i d = false := by
      cases d with
      | bor k =>
        rw [okB, Bool.and_eq_true, Bool.and_eq_true] at ok
        by_cases q : i = k
        · subst q
          have := ok.1.2
          rw [hin] at this
          cases this
        · simp [isB, q]
      | _ => rfl
    have ok' : okB lk (j + 1) ds = true := by
      cases d with
      | bor k => rw [okB, Bool.and_eq_true] at ok; exact ok.2
      | _ => exact ok
    rw [List.findIdx?_cons, hd, okB_first ok' e']
    rfl
theorem RelX.pre {ds : List Vl} {vs : List V} {lk : List Nat} (hl : vs.length = ds.length) (R : RelX K B lv st (ds.reverse ++ tm) σ (vs.reverse ++ tv) H F O) (ok : okB lk 0 ds = true) : Pre K F (argO ds tm.length O) (ds.map (res st)) vs H where
  len := by rw [List.length_map]; exact hl.symm
  av := fun i d v e1 e2 => by
    rw [List.getElem?_map] at e1
    cases e : ds[i]? with
    | none => rw [e] at e1; cases e1
    | some x =>
      rw [e] at e1
      have hd : res st x = d := Option.some.inj e1
      have hi : i < ds.length := (List.getElem?_eq_some_iff.mp e).1
      have kp : Kp F H H := fun _ _ e _ => e
      rcases R.argAt hl e e2 with ⟨j, ej, h1⟩ | h
      · subst ej
        have hd' : (st[j]?).getD .gone = d := hd
        cases q : st[j]? with
        | none => rw [q] at hd'; exact .inl hd'.symm
        | some y =>
          rw [q] at hd'
          have hy : y = d := hd'
          subst hy
          rcases R.sl j y q with z | ⟨u, h2, h3⟩
          · exact .inl z
          · rw [h1] at h2; cases h2
            refine .inr (h3.keep (fun _ f => f) kp (fun a z => ?_) (fun _ _ _ z => z))
            have hin : ds.any (isB j) = true := List.any_eq_true.mpr ⟨_, List.mem_of_getElem? e, by simp [isB]⟩
            show (argO ds tm.length O a).map Sum.inl = _
            unfold argO
            rw [z]
            simp only [hin, if_true, okB_first ok e]
            rfl
      · have hx : res st x = x := by
          cases x with
          | bor _ => exact h.elim
          | _ => rfl
        rw [hx] at hd
        subst hd
        refine .inr (h.keep (fun _ f => f) kp (fun a z => ?_) (fun _ _ _ z => z))
        show (argO ds tm.length O a).map Sum.inl = _
        unfold argO
        rw [z]
        simp only
        rw [if_pos ⟨by omega, by omega⟩]
        show some (Sum.inl (tm.length + i - tm.length)) = _
        rw [Nat.add_sub_cancel_left]
  fo := fun a f => by unfold argO; rw [R.fo a f]
  fh := R.fh
  oh := fun a i h => by
    obtain ⟨w, e⟩ := argO_some h
    exact R.oh a w e
/-- behind a call -/
theorem RelX.post {ds ds' : List Vl} {vs : List V} {lk : List Nat} (hl : vs.length = ds.length) (R : RelX K B lv st (ds.reverse ++ tm) σ (vs.reverse ++ tv) H F O) (ok : okB lk 0 ds = true) (q : Post K F (argO ds tm.length O) vs H lk ds' H' F' O') :
    RelX K B lv (upds ds' 0 ds st) tm σ tv H' F' (fun a => match O' a with
      | some (.inr _) => some (.inr tm.length)
      | some (.inl j) => (match ds[j]? with | some (.bor i) => some (.inl i) | _ => some (.inr tm.length))
      | none => if argO ds tm.length O a = none then O a else none) := by
  have Rp := R.popAll (by simp only [List.length_reverse]; exact hl)
  have kp : Kp F H H' := fun a o e h => by
    refine q.fr a o e ?_
    rcases h with f | s
    · unfold argO; rw [R.fo a f]
    · cases z : argO ds tm.length O a with
      | none => rfl
      | some i =>
        obtain ⟨w, ew⟩ := argO_some z
        obtain ⟨o', e', n⟩ := R.oh a w ew
        rw [e] at e'; cases e'
        exact absurd s n
  -- an address that no argument owns: its owner stays
  have stay : ∀ a w, O a = some w → argO ds tm.length O a = none → (match O' a with
      | some (.inr _) => some (Sum.inr tm.length)
      | some (.inl j) => (match ds[j]? with | some (.bor i) => some (Sum.inl i) | _ => some (Sum.inr tm.length))
      | none => if argO ds tm.length O a = none then O a else none) = some w := fun a w e n => by
    have h : O' a = none := by
      cases z : O' a with
      | none => rfl
      | some w' =>
        rcases q.mi a w' z with y | y
        · exact absurd n y
        · exact (Rp.oh' e y).elim
    rw [h]
    simp only
    rw [if_pos n, e]
  have slotN : ∀ i a, ds.any (isB i) = false → O a = some (.inl i) → argO ds tm.length O a = none := fun i a h e => by
    unfold argO
    rw [e]
    simp only
    rw [if_neg (by rw [h]; exact Bool.false_ne_true)]
  have tempN : ∀ n a, n < tm.length → O a = some (.inr n) → argO ds tm.length O a = none := fun n a h e => by
    unfold argO
    rw [e]
    simp only
    rw [if_neg (by omega)]
  refine ⟨by rw [upds_len]; exact R.len, fun i d e => ?_, Rp.tp.keep q.f0 kp σ (fun a n hn e => stay a _ e (tempN n a hn e)) (fun a o n hn e z => q.fr a o z (tempN n a hn e)) (fun _ _ _ h => h), fun a f => ?_, fun a w e => ?_, q.fh, fun a o e n => ?_, fun a w e => ?_, fun a f => q.f0 a (R.f0 a f), fun a f => ?_, R.lk⟩
  · by_cases hb : ds.any (isB i) = true
    · have hi : i < st.length := by
        by_cases z : i < st.length
        · exact z
        · rw [List.getElem?_eq_none (by rw [upds_len]; exact Nat.not_lt.mp z)] at e; cases e
      obtain ⟨m, e1, e2, e3⟩ := upds_in ds' ds 0 st ok hi hb
      rw [Nat.zero_add] at e2 e3
      rw [e3] at e
      cases e
      cases z : ds'[m]? with
      | none => exact .inl rfl
      | some d =>
        have hm : m < ds.length := (List.getElem?_eq_some_iff.mp e1).1
        obtain ⟨u, hu⟩ : ∃ u, vs[m]? = some u := ⟨_, List.getElem?_eq_getElem (by omega)⟩
        rcases q.av m e2 d u z hu with y | y
        · exact .inl y
        · rcases R.argAt hl e1 hu with ⟨j, ej, h1⟩ | h
          · cases ej
            refine .inr ⟨u, h1, y.keep (fun _ f => f) (fun _ _ e _ => e) (fun a ea => ?_) (fun _ _ _ e => e)⟩
            rw [ea]
            simp only [e1]
          · exact h.elim
    · have hb' : ds.any (isB i) = false := by simpa using hb
      rw [upds_out ds' ds 0 st hb'] at e
      rcases R.sl i d e with z | ⟨u, h1, h2⟩
      · exact .inl z
      · exact .inr ⟨u, h1, h2.keep q.f0 kp (fun a ea => stay a _ ea (slotN i a hb' ea)) (fun a o ea z => q.fr a o z (slotN i a hb' ea))⟩
  · rw [q.fo a f]
    simp only
    by_cases n : argO ds tm.length O a = none
    · rw [if_pos n]
      rcases q.f1 a f with z | z | z
      · exact R.fo a z
      · cases y : O a with
        | none => rfl
        | some w => exact (R.oh' y z).elim
      · exact absurd n z
    · rw [if_neg n]
  · cases z : O' a with
    | some w' => exact q.oh a w' z
    | none =>
      rw [z] at e
      simp only at e
      by_cases n : argO ds tm.length O a = none
      · rw [if_pos n] at e
        obtain ⟨o, e1, e2⟩ := R.oh a w e
        exact ⟨o, q.fr a o e1 n, e2⟩
      · rw [if_neg n] at e; cases e
  · have h := R.fr a o e n
    refine q.fr a o h ?_
    cases z : argO ds tm.length O a with
    | none => rfl
    | some i =>
      obtain ⟨w, ew⟩ := argO_some z
      rcases R.mi a w ew with y | y
      · exact absurd y n
      · rw [e] at y; cases y
  · have fin : argO ds tm.length O a ≠ none ∨ H a = none → B.A0 a ∨ B.H0 a = none := fun h => by
      rcases h with h | h
      · cases z : argO ds tm.length O a with
        | none => exact absurd z h
        | some i =>
          obtain ⟨w', ew⟩ := argO_some z
          exact R.mi a w' ew
      · by_cases y : B.A0 a
        · exact .inl y
        · cases z : B.H0 a with
          | none => exact .inr rfl
          | some o => rw [R.fr a o z y] at h; cases h
    cases z : O' a with
    | some w' => exact fin (q.mi a w' z)
    | none =>
      rw [z] at e
      simp only at e
      by_cases n : argO ds tm.length O a = none
      · rw [if_pos n] at e; exact R.mi a w e
      · rw [if_neg n] at e; cases e
  · rcases q.f1 a f with z | z | z
    · exact R.f1 a z
    · by_cases y : B.A0 a
      · exact .inr (.inr y)
      · cases x : B.H0 a with
        | none => exact .inr (.inl rfl)
        | some o => rw [R.fr a o x y] at z; cases z
    · cases y : argO ds tm.length O a with
      | none => exact absurd y z
      | some i =>
        obtain ⟨w', ew⟩ := argO_some y
        rcases R.mi a w' ew with x | x
        · exact .inr (.inr x)
        · exact .inr (.inl x)
end

/-- f(e, ..): S over the arguments (what aliases stand for), the slots behind -/
def cCall (lk : List Nat) (S : VSp) (t : DTA) : DT := fun st Q => t st fun ds st1 => okB lk 0 ds = true ∧ S (ds.map (res st1)) (fun r ds' => Q r (upds ds' 0 ds st1)) (fun _ _ => False)
section
variable {X : Cx} {B : Ba} {lk lk' : List Nat} {e : Expr} {es : List Expr} {t : DTA} {p pos : Pos} {x : Str} {j k n : Nat} {S : VSp}
theorem call_weak {ps : List Str} {f : Addr} {fd : FuncData} {CX : CXT} (F : FnG X.prog X.w X.K X.mg X.base CX k f fd ps (spV X.K X.mg lk' n S)) (h0 : ∀ ds Q E, S ds Q E → ds.length = n) {σ : L2.St} {H : Hp} {Q : VK} (h : LE X.K B lk (cCall lk' S t) σ H Q) :
    tCallG (spV X.K X.mg lk' n S) E0 (LA X.K B lk t) σ H Q := by
  obtain ⟨lv, st, tm, tv, Q0, L, R, h, k⟩ := h
  refine ⟨lv, st, tm, tv, _, L, R, h, fun ds st1 vs H1 q hl R1 => ?_⟩
  obtain ⟨ok, hS⟩ := q
  obtain ⟨F, O, R1⟩ := R1
  refine ⟨by rw [hl, ← List.length_map (f := res st1)]; exact h0 _ _ _ hS, F, argO ds tm.length O, ds.map (res st1), _, fun _ _ => False, R1.pre hl ok, hS, fun r ds' v H' F' O' q1 P r1 => ?_, fun _ _ _ _ _ _ _ z => z.elim⟩
  exact k _ _ _ _ q1 ⟨F', _, (R1.post hl ok P).push (r1.keep (fun _ f => f) (fun _ _ e _ => e) (fun a ea => by rw [ea]) (fun _ _ _ e => e))⟩
theorem de_call (c : Def X.prog X.w X.K X.mg X.base CX0 k x lk' n S) (h0 : ∀ ds Q E, S ds Q E → ds.length = n) (hr : Room j X.A) (hgd : X.A.guards = some []) (hk : k ≤ j) (hg : Gl X x) (ha : DA X B lk (e :: es) t)
    (hdb : (x == ("__debug__" : Str)) = false := by decide) (he : starEach (e :: es) X.env = (false, eval e X.env) :: starEach es X.env := by rfl) (hpl : (backTo pos (starEach es X.env)).any (·.1) = false := by rfl) :
    DE X B lk (.Call (.Name x p) (e :: es) [] pos) (cCall lk' S t) := by
  obtain ⟨f, fd, ps, hm, F, b, kp⟩ := c.ex
  exact PE.weak (pe_callG F (hr.mono hk) hgd hg hm kp b pass0 ha hdb he hpl) fun _ _ _ h => call_weak F h0 h
end
end DL

/-! The data layer, part 5: statements, loops, comprehensions, a def's body. -/
namespace DL
open PySem PySem.Spec PyProof.Rows L2

structure DEnds where
  nx : List Vl → Prop
  rt : Vl → List Vl → Prop
  bk : List Vl → Prop := fun _ => False
  ct : List Vl → Prop := fun _ => False
abbrev DTS := DEnds → List Vl → Prop
/-- no temp is an alias but of a locked slot -/
def Bl (tm : List Vl) (lk : List Nat) : Prop := ∀ i, Vl.bor i ∈ tm → i ∈ lk
structure EndsOk (K : PySem.W.Frag) (B : Ba) (lv : List (Nat × V)) (tm : List Vl) (tv : List V) (D0 : DEnds) (D : Ends) : Prop where
  nx : ∀ st' σ' H', D0.nx st' → Rel K B lv st' tm σ' tv H' → D.nx σ' H'
  rt : ∀ d st' v σ' H', D0.rt d st' → Rel K B lv st' (d :: tm) σ' (v :: tv) H' → D.rt v H'
  bk : ∀ st' σ' H', D0.bk st' → Rel K B lv st' tm σ' tv H' → D.bk σ' H'
  ct : ∀ st' σ' H', D0.ct st' → Rel K B lv st' tm σ' tv H' → D.ct σ' H'
def LS (K : PySem.W.Frag) (B : Ba) (lk : List Nat) (t : DTS) : TS := fun D σ H => ∃ lv st tm tv D0, Lk B lv lk ∧ Bl tm lk ∧ Rel K B lv st tm σ tv H ∧ t D0 st ∧ EndsOk K B lv tm tv D0 D
abbrev DS (X : Cx) (B : Ba) (lk : List Nat) (s : Stmt) (t : DTS) : Prop := PS X s (LS X.K B lk t)
abbrev DSs (X : Cx) (B : Ba) (lk : List Nat) (s : List Stmt) (t : DTS) : Prop := PSs X s (LS X.K B lk t)

section
variable {X : Cx} {B : Ba} {lk : List Nat} {a b e : Expr} {s : Stmt} {rest : List Stmt} {ta tb te : DT} {t u : DTS} {pos : Pos}
def cNext : DTS := fun D st => D.nx st
def cSeq (t u : DTS) : DTS := fun D st => t { D with nx := u D } st
theorem dss_nil : DSs X B lk [] cNext := PSs.weak pss_nil fun D σ H ⟨lv, st, tm, tv, D0, L, Bt, R, h, k⟩ => k.nx _ _ _ h R
theorem dss_cons (h1 : DS X B lk s t) (h2 : DSs X B lk rest u) : DSs X B lk (s :: rest) (cSeq t u) := PSs.weak (pss_cons h1 h2) fun D σ H ⟨lv, st, tm, tv, D0, L, Bt, R, h, k⟩ =>
  ⟨lv, st, tm, tv, _, L, Bt, R, h, ⟨fun st' σ' H' q R' => ⟨lv, st', tm, tv, D0, L, Bt, R', q, k⟩, k.rt, k.bk, k.ct⟩⟩
theorem dss_one (h1 : DS X B lk s t) : DSs X B lk [s] t := pss_one h1
def cDrop (te : DT) : DTS := fun D st => te st fun _ st' => D.nx st'
theorem ds_expr (he : DE X B lk e te) (hs : swapsWith e none pos.line X.env = pure false := by rfl) : DS X B lk (.Expr e pos) (cDrop te) := PS.weak (ps_expr he hs) fun D σ H ⟨lv, st, tm, tv, D0, L, Bt, R, h, k⟩ =>
  ⟨lv, st, tm, tv, _, L, R, h, fun d st' v H' q R' => k.nx _ _ _ q R'.pop⟩
/-- what a def hands back is no alias -/
def cRet (te : DT) : DTS := fun D st => te st fun d st' => (∀ i, d ≠ .bor i) ∧ D.rt d st'
theorem ds_ret (he : DE X B lk e te) : DS X B lk (.Return (some e) pos) (cRet te) := PS.weak (ps_ret he) fun D σ H ⟨lv, st, tm, tv, D0, L, Bt, R, h, k⟩ =>
  ⟨lv, st, tm, tv, _, L, R, h, fun d st' v H' q R' => k.rt _ _ _ _ _ q.2 R'⟩
def cIfS (c : DTT) (t u : DTS) : DTS := fun D st => c st fun b st1 => if b = true then t D st1 else u D st1
theorem ds_if {c : Expr} {as bs : List Stmt} {tc : DTT} (hc : DC X B lk c tc) (ha : DSs X B lk as t) (hb : DSs X B lk bs u) : DS X B lk (.If c as bs pos) (cIfS tc t u) := PS.weak (ps_if hc ha hb) fun D σ H ⟨lv, st, tm, tv, D0, L, Bt, R, h, k⟩ => by
  refine ⟨lv, st, tm, tv, _, L, R, h, fun c st' H' q R' => ?_⟩
  cases c with
  | true => rw [if_pos rfl] at q ⊢; exact ⟨lv, st', tm, tv, D0, L, Bt, R', q, k⟩
  | false => rw [if_neg Bool.false_ne_true] at q ⊢; exact ⟨lv, st', tm, tv, D0, L, Bt, R', q, k⟩

/-! ### targets -/
abbrev DTG := Vl → List Vl → (List Vl → Prop) → Prop
abbrev DTGs := List PyData → List Vl → (List Vl → Prop) → Prop
/-- only the slots ws are others -/
def Fs (ws : List Nat) (σ σ' : L2.St) : Prop := σ'.length = σ.length ∧ ∀ i, i ∉ ws → σ'[i]? = σ[i]?
def LG (K : PySem.W.Frag) (B : Ba) (lk ws : List Nat) (g : DTG) : TG := fun v σ H Q => ∃ lv st d tm tv Q0, Lk B lv lk ∧ Bl tm lk ∧ Rel K B lv st (d :: tm) σ (v :: tv) H ∧ g d st Q0 ∧ ∀ st' σ' H', Q0 st' → Fs ws σ σ' → Rel K B lv st' tm σ' tv H' → Q σ' H'
def LGs (K : PySem.W.Frag) (B : Ba) (lk ws : List Nat) (g : DTGs) : TGs := fun vs σ H Q => ∃ lv st ds tm tv Q0, Lk B lv lk ∧ Bl tm lk ∧ vs.length = ds.length ∧ Rel K B lv st (ds.map Vl.fr ++ tm) σ (vs ++ tv) H ∧ g ds st Q0 ∧ ∀ st' σ' H', Q0 st' → Fs ws σ σ' → Rel K B lv st' tm σ' tv H' → Q σ' H'
abbrev DG (X : Cx) (B : Ba) (lk ws : List Nat) (e : Expr) (g : DTG) : Prop := PG X e (LG X.K B lk ws g)
abbrev DGs (X : Cx) (B : Ba) (lk ws : List Nat) (es : List Expr) (g : DTGs) : Prop := PGs X es (LGs X.K B lk ws g)
/-- a name; what comes is no alias -/
def gNm (i : Nat) : DTG := fun d st Q => (∀ j, d ≠ .bor j) ∧ i < st.length ∧ Q (st.set i d)
theorem PGs.weak {X : Cx} {e : List Expr} {t t' : TGs} (h : PGs X e t) (i : ∀ v σ H Q, t' v σ H Q → t v σ H Q) : PGs X e t' := ⟨fun pins s σ H v u Q I r q => h.run pins s σ H v u Q I r (i v σ H Q q)⟩
theorem dg_name (i : Nat) {x : Str} (hN : X.N.Nodup) (hl : lk.contains i = false) (hi : X.N[i]? = some x) (hx : Loc X.env.scope x) (hf : X.fn x = true ∨ X.env.scope.names.lookup x = some .local := by first | exact .inl rfl | exact .inr rfl | assumption) : DG X B lk [i] (.Name x pos) (gNm i) :=
  PG.weak (pg_name hN hi hx hf) fun v σ H Q ⟨lv, st, d, tm, tv, Q0, L, Bt, R, h, k⟩ =>
    have hn : i ∉ lk := fun z => by rw [List.contains_iff_mem.mpr z] at hl; cases hl
    k _ _ _ h.2.2 ⟨List.length_set .., fun j hj => List.getElem?_set_ne (fun e => hj (by rw [e]; exact List.mem_singleton.mpr rfl))⟩ (R.store h.1 h.2.1 (fun z => hn (Bt i z)) (fun p hp z => hn (z ▸ L.1 p hp)))
def gsNil : DTGs := fun ds st Q => ds = [] ∧ Q st
def gsCons (g : DTG) (gs : DTGs) : DTGs := fun ds st Q => match ds with
  | d :: ds => g (.fr d) st fun st' => gs ds st' Q
  | [] => False
theorem dgs_nil : DGs X B lk [] [] gsNil := PGs.weak pgs_nil fun vs σ H Q ⟨lv, st, ds, tm, tv, Q0, L, Bt, hl, R, h, k⟩ => by
  obtain ⟨rfl, h⟩ := h
  cases vs with
  | nil => exact ⟨rfl, k _ _ _ h ⟨rfl, fun _ _ => rfl⟩ R⟩
  | cons _ _ => cases hl
theorem dgs_cons {w1 w2 : List Nat} {e : Expr} {es : List Expr} {g : DTG} {gs : DTGs} (h1 : DG X B lk w1 e g) (h2 : DGs X B lk w2 es gs) (hs : (assignEach (e :: es) X.env).map (·.2) = assign e X.env :: (assignEach es X.env).map (·.2) := by rfl) : DGs X B lk (w1 ++ w2) (e :: es) (gsCons g gs) :=
  PGs.weak (pgs_cons h1 h2 hs) fun vs σ H Q ⟨lv, st, ds, tm, tv, Q0, L, Bt, hl, R, h, k⟩ => by
    cases ds with
    | nil => exact h.elim
    | cons d ds =>
      cases vs with
      | nil => cases hl
      | cons v vs =>
        refine ⟨v, vs, rfl, lv, st, .fr d, ds.map Vl.fr ++ tm, vs ++ tv, _, L, fun i hi => ?_, R, h, fun st' σ' H' q f1 R' => ⟨lv, st', ds, tm, tv, Q0, L, Bt, Nat.succ.inj hl, R', q, fun st2 σ2 H2 q2 f2 R2 => k _ _ _ q2 ⟨f2.1.trans f1.1, fun j hj => (f2.2 j (fun z => hj (List.mem_append_right _ z))).trans (f1.2 j (fun z => hj (List.mem_append_left _ z)))⟩ R2⟩⟩
        rcases List.mem_append.mp hi with z | z
        · obtain ⟨y, _, e⟩ := List.mem_map.mp z; cases e
        · exact Bt i z
/-- (a, b, ..): a frozen tuple is unpacked -/
def gTu (n : Nat) (gs : DTGs) : DTG := fun d st Q => match d with
  | .fr (.tuple ds) => ds.length = n ∧ gs ds st Q
  | _ => False
theorem RelX.spread {K : PySem.W.Frag} {B : Ba} {lv : List (Nat × V)} {st tm : List Vl} {σ : L2.St} {tv : List V} {H : Hp} {F : Addr → Prop} {O : Addr → Option Ow} : ∀ {vs : List V} {ds : List PyData}, RpA K F H vs ds → RelX K B lv st tm σ tv H F O → RelX K B lv st (ds.map Vl.fr ++ tm) σ (vs ++ tv) H F O
  | _, _, .nil, R => R
  | _, _, .cons r q, R => (RelX.spread q R).push (d := .fr _) r
theorem dg_tup {ws : List Nat} {es : List Expr} {k : Nat} {gs : DTGs} {n : Nat} (hc : X.calm = true) (h : DGs X B lk ws es gs) (hn : (assignEach es X.env).length = n := by rfl) (hst : (assignEach es X.env).findIdx? (·.1) = none := by rfl) : DG X B lk ws (.Tuple es k pos) (gTu n gs) :=
  PG.weak (pg_tup hc h hn hst) fun v σ H Q ⟨lv, st, d, tm, tv, Q0, L, Bt, R, h, k⟩ => by
    unfold gTu at h
    split at h
    · rename_i ds
      obtain ⟨F, O, R⟩ := R
      obtain ⟨a, vs, rfl, h1, r⟩ := R.tup (ds := ds) rfl
      exact ⟨a, vs, rfl, h1, by rw [r.length]; exact h.1, lv, st, ds, tm, tv, Q0, L, Bt, r.length, ⟨F, O, RelX.spread r R.pop⟩, h.2, k⟩
    · exact h.elim
/-- target = e -/
def cAsg (te : DT) (g : DTG) : DTS := fun D st => te st fun d st' => g d st' D.nx
theorem asg_weak {ws : List Nat} {g : DTG} {D : Ends} {σ : L2.St} {H : Hp} (h : LS X.K B lk (cAsg te g) D σ H) : tAsg (LE X.K B lk te) (LG X.K B lk ws g) D σ H := by
  obtain ⟨lv, st, tm, tv, D0, L, Bt, R, h, k⟩ := h
  exact ⟨lv, st, tm, tv, _, L, R, h, fun d st' v H' q R' => ⟨lv, st', d, tm, tv, _, L, Bt, R', q, fun st2 σ2 H2 q2 _ R2 => k.nx _ _ _ q2 R2⟩⟩
theorem ds_asg {ws : List Nat} {tg : Expr} {g : DTG} (he : DE X B lk e te) (hg : DG X B lk ws tg g) (hs : swapsWithSole [tg] e pos.line X.env = pure false := by rfl) (hw : swappedStores [tg] e X.env = pure none := by rfl)
    (h1 : (assignEach [tg] X.env).map (·.2) = [assign tg X.env] := by rfl) : DS X B lk (.Assign [tg] e pos) (cAsg te g) := PS.weak (ps_asg he hg hs hw h1) fun _ _ _ h => asg_weak h
theorem ds_set (i : Nat) {x : Str} {pos' : Pos} (hN : X.N.Nodup) (hl : lk.contains i = false) (hi : X.N[i]? = some x) (hx : Loc X.env.scope x) (he : DE X B lk e te) (hs : swapsWith e (some (.Name x pos')) pos.line X.env = pure false := by rfl)
    (hf : X.fn x = true ∨ X.env.scope.names.lookup x = some .local := by first | exact .inl rfl | exact .inr rfl | assumption) : DS X B lk (.Assign [.Name x pos'] e pos) (cAsg te (gNm i)) :=
  PS.weak (ps_set hN hi hx he hs hf) fun D σ H h => by
    obtain ⟨lv, st, tm, tv, D0, L, Bt, R, h, k⟩ := h
    have hn : i ∉ lk := fun z => by rw [List.contains_iff_mem.mpr z] at hl; cases hl
    exact ⟨lv, st, tm, tv, _, L, R, h, fun d st' v H' q R' => k.nx _ _ _ q.2.2 (R'.store q.1 q.2.1 (fun z => hn (Bt i z)) (fun p hp z => hn (z ▸ L.1 p hp)))⟩
/-- a, b = e1, e2 -/
def cPar (i j : Nat) (ta : DTA) : DTS := fun D st => ta st fun ds st' => match ds with
  | [x, y] => (∀ k, x ≠ .bor k) ∧ (∀ k, y ≠ .bor k) ∧ i < st'.length ∧ j < st'.length ∧ D.nx ((st'.set j y).set i x)
  | _ => False
theorem ds_par (i j : Nat) {x y : Str} {ta : DTA} {px py pt : Pos} {kt k2 pt2} (hc : X.calm = true) (hN : X.N.Nodup) (hli : lk.contains i = false) (hlj : lk.contains j = false) (hi : X.N[i]? = some x) (hj : X.N[j]? = some y) (hij : i ≠ j)
    (hx : X.env.scope.names.lookup x = some .local) (hy : X.env.scope.names.lookup y = some .local) (ha : DA X B lk [a, b] ta)
    (hw : swappedStores [.Tuple [.Name x px, .Name y py] kt pt] (.Tuple [a, b] k2 pt2) X.env = pure (some [x, y]))
    (hs : swapsWithSole [.Tuple [.Name x px, .Name y py] kt pt] (.Tuple [a, b] k2 pt2) pos.line X.env = pure false := by rfl) :
    DS X B lk (.Assign [.Tuple [.Name x px, .Name y py] kt pt] (.Tuple [a, b] k2 pt2) pos) (cPar i j ta) :=
  PS.weak (ps_par hc hN hi hj hij hx hy ha hw hs) fun D σ H ⟨lv, st, tm, tv, D0, L, Bt, R, h, k⟩ => by
    have hn : i ∉ lk := fun z => by rw [List.contains_iff_mem.mpr z] at hli; cases hli
    have hm : j ∉ lk := fun z => by rw [List.contains_iff_mem.mpr z] at hlj; cases hlj
    refine ⟨lv, st, tm, tv, _, L, R, h, fun ds st' vs H' q hl R' => ?_⟩
    split at q
    · rename_i c d
      match vs, hl with
      | [v, w], _ =>
        obtain ⟨q1, q2, q3, q4, q5⟩ := q
        refine ⟨v, w, rfl, ?_⟩
        have R2 : Rel X.K B lv st' (d :: c :: tm) σ (w :: v :: tv) H' := R'
        have R3 := R2.store (i := j) q2 q4 (fun z => by
          rcases List.mem_cons.mp z with z | z
          · exact q1 j z.symm
          · exact hm (Bt j z)) (fun p hp z => hm (z ▸ L.1 p hp))
        have R4 := R3.store (i := i) q1 (by rw [List.length_set]; exact q3) (fun z => hn (Bt i z)) (fun p hp z => hn (z ▸ L.1 p hp))
        rw [List.set_comm _ _ hij]
        exact k.nx _ _ _ q5 R4
    · exact q.elim
end
end DL

/-! The data layer, part 6: what is walked; for, while, list comprehensions. -/
namespace DL
open PySem PySem.Spec PyProof.Rows L2

section
variable {K : PySem.W.Frag} {B : Ba} {lv : List (Nat × V)} {st tm : List Vl} {σ : L2.St} {tv : List V} {H H' : Hp} {F F' : Addr → Prop} {O O' : Addr → Option Ow} {v : V} {d : Vl} {a p : Addr}
theorem Rel.unlock {l : List (Nat × V)} (R : Rel K B (l ++ lv) st tm σ tv H) : Rel K B lv st tm σ tv H := by
  obtain ⟨F, O, R⟩ := R
  exact ⟨F, O, R.len, R.sl, R.tp, R.fo, R.oh, R.fh, R.fr, R.mi, R.f0, R.f1, fun p hp => R.lk p (List.mem_append_right _ hp)⟩
/-- the locks of some temps -/
def locks : List Vl → List V → List (Nat × V)
  | .bor i :: ds, v :: vs => (i, v) :: locks ds vs
  | _ :: ds, _ :: vs => locks ds vs
  | _, _ => []
theorem locks_in : ∀ {ds : List Vl} {vs : List V} {p : Nat × V}, p ∈ locks ds vs → Vl.bor p.1 ∈ ds
  | [], _, _, h => by simp [locks] at h
  | _ :: _, [], _, h => by simp [locks] at h
  | .bor i :: ds, v :: vs, p, h => by
    rw [locks] at h
    rcases List.mem_cons.mp h with e | h
    · subst e; exact List.mem_cons_self
    · exact List.mem_cons_of_mem _ (locks_in h)
  | .fr _ :: ds, v :: vs, p, h => List.mem_cons_of_mem _ (locks_in (ds := ds) (vs := vs) h)
  | .ow _ :: ds, v :: vs, p, h => List.mem_cons_of_mem _ (locks_in (ds := ds) (vs := vs) h)
  | .dk _ :: ds, v :: vs, p, h => List.mem_cons_of_mem _ (locks_in (ds := ds) (vs := vs) h)
  | .cst _ :: ds, v :: vs, p, h => List.mem_cons_of_mem _ (locks_in (ds := ds) (vs := vs) h)
  | .scr _ :: ds, v :: vs, p, h => List.mem_cons_of_mem _ (locks_in (ds := ds) (vs := vs) h)
  | .exn _ :: ds, v :: vs, p, h => List.mem_cons_of_mem _ (locks_in (ds := ds) (vs := vs) h)
  | .un _ :: ds, v :: vs, p, h => List.mem_cons_of_mem _ (locks_in (ds := ds) (vs := vs) h)
  | .gone :: ds, v :: vs, p, h => List.mem_cons_of_mem _ (locks_in (ds := ds) (vs := vs) h)
theorem Rel.lockAll {src : List Vl} {sv : List V} (R : Rel K B lv st (src ++ tm) σ (sv ++ tv) H) (hl : sv.length = src.length) : Rel K B (locks src sv ++ lv) st (src ++ tm) σ (sv ++ tv) H := by
  have key : ∀ (src : List Vl) (sv : List V), (∃ F O, TmR K F O H σ (src ++ tm) (sv ++ tv)) → sv.length = src.length → ∀ p ∈ locks src sv, σ[p.1]? = some (some p.2) := by
    intro src
    induction src with
    | nil => intro sv _ _ p hp; simp [locks] at hp
    | cons d src ih =>
      intro sv h hl p hp
      cases sv with
      | nil => cases hl
      | cons v sv =>
        obtain ⟨F, O, h1, h2⟩ := h
        have rest := ih sv ⟨F, O, h2⟩ (Nat.succ.inj hl)
        cases d with
        | bor i =>
          rw [locks] at hp
          rcases List.mem_cons.mp hp with e | hp
          · subst e
            rcases h1 with ⟨j, ej, h⟩ | h
            · cases ej; exact h
            · exact h.elim
          · exact rest p hp
        | _ => exact rest p hp
  obtain ⟨F, O, R⟩ := R
  refine ⟨F, O, R.len, R.sl, R.tp, R.fo, R.oh, R.fh, R.fr, R.mi, R.f0, R.f1, fun p hp => ?_⟩
  rcases List.mem_append.mp hp with hp | hp
  · exact key src sv ⟨F, O, R.tp⟩ hl p hp
  · exact R.lk p hp
/-- temps beneath the top one are dropped -/
theorem Rel.under {src : List Vl} {sv : List V} (hl : sv.length = src.length) (R : Rel K B lv st (d :: (src ++ tm)) σ (v :: (sv ++ tv)) H) : Rel K B lv st (d :: tm) σ (v :: tv) H := by
  obtain ⟨F, O, R⟩ := R
  have Rt : RelX K B lv st tm σ tv H F O := R.pop.popAll hl
  rcases R.tp.1 with ⟨i, e, h⟩ | h
  · exact ⟨F, O, Rt.len, Rt.sl, ⟨.inl ⟨i, e, h⟩, Rt.tp⟩, Rt.fo, Rt.oh, Rt.fh, Rt.fr, Rt.mi, Rt.f0, Rt.f1, Rt.lk⟩
  · rw [List.length_append] at h
    have kp : Kp F H H := fun _ _ e _ => e
    by_cases hs : src.length = 0
    · rw [hs, Nat.zero_add] at h
      exact ⟨F, O, Rt.push h⟩
    · refine ⟨F, fun a => if O a = some (.inr (src.length + tm.length)) then some (.inr tm.length) else O a, Rt.len, fun i d' e => ?_, ⟨.inr (h.keep (fun _ f => f) kp (fun a e => if_pos e) (fun _ _ _ e => e)), Rt.tp.keep (fun _ f => f) kp σ (fun a n hn e => ?_) (fun _ _ _ _ _ e => e) (fun _ _ _ e => e)⟩, fun a f => ?_, fun a w e => ?_, Rt.fh, Rt.fr, fun a w e => ?_, Rt.f0, Rt.f1, Rt.lk⟩
      · rcases Rt.sl i d' e with z | ⟨u, h1, h2⟩
        · exact .inl z
        · refine .inr ⟨u, h1, h2.keep (fun _ f => f) kp (fun a e => ?_) (fun _ _ _ e => e)⟩
          rw [if_neg (by rw [e]; intro z; cases z)]; exact e
      · rw [if_neg (by rw [e]; intro z; have := Sum.inr.inj (Option.some.inj z); omega)]; exact e
      · rw [R.fo a f, if_neg (by intro z; cases z)]
      · by_cases q : O a = some (.inr (src.length + tm.length))
        · exact R.oh a _ q
        · rw [if_neg q] at e; exact R.oh a w e
      · by_cases q : O a = some (.inr (src.length + tm.length))
        · exact R.mi a _ q
        · rw [if_neg q] at e; exact R.mi a w e
end

/-! ### what is walked -/
structure Wk (K : PySem.W.Frag) (B : Ba) (J : It) (items : List PyData) (src : List Vl) (sv : List V) (cond : List Vl → Prop) : Prop where
  go : ∀ lv st tm σ tv H i d, cond st → Rel K B lv st (src ++ tm) σ (sv ++ tv) H → items[i]? = some d → J.go i H ∧ ∀ x H', J.yld i H x H' → Rel K B lv st (.fr d :: (src ++ tm)) σ (x :: (sv ++ tv)) H'
  stop : ∀ lv st tm σ tv H, cond st → Rel K B lv st (src ++ tm) σ (sv ++ tv) H → J.stop items.length H
abbrev DTI := List Vl → (List PyData → List Vl → (List Vl → Prop) → List Vl → Prop) → Prop
def LI (K : PySem.W.Frag) (B : Ba) (lk : List Nat) (ti : DTI) : TI := fun σ H R => ∃ lv st tm tv Q0, Lk B lv lk ∧ Rel K B lv st tm σ tv H ∧ ti st Q0 ∧
  ∀ items src cond st' sv J H', Q0 items src cond st' → Wk K B J items src sv cond → sv.length = src.length → Rel K B lv st' (src ++ tm) σ (sv ++ tv) H' → R J H'
abbrev DI (X : Cx) (B : Ba) (lk : List Nat) (tg iter : Expr) (ti : DTI) : Prop := PI X tg iter (LI X.K B lk ti)
theorem PI.weak {X : Cx} {tg iter : Expr} {t t' : TI} (h : PI X tg iter t) (i : ∀ σ H Q, t' σ H Q → t σ H Q) : PI X tg iter t' := ⟨fun pins s σ H Q I q => h.run pins s σ H Q I (i σ H Q q)⟩

/-! ### for -/
def forGo (cond : List Vl → Prop) (g : DTG) (tb : DTS) (D : DEnds) : List PyData → List Vl → Prop
  | [], st => D.nx st
  | d :: ds, st => g (.fr d) st fun st2 => tb { D with nx := fun st3 => cond st3 ∧ forGo cond g tb D ds st3, ct := fun st3 => cond st3 ∧ forGo cond g tb D ds st3, bk := D.nx } st2
/-- lx: the slots that the loop walks (locked within) -/
def srcOk (lx : List Nat) : List Vl → Bool
  | [] => true
  | .bor i :: ds => lx.contains i && srcOk lx ds
  | .ow _ :: _ => false
  | .dk _ :: _ => false
  | .un _ :: _ => false
  | _ :: ds => srcOk lx ds
theorem srcOk_in {lx : List Nat} : ∀ {ds : List Vl} {i : Nat}, srcOk lx ds = true → Vl.bor i ∈ ds → i ∈ lx
  | [], _, _, h => by cases h
  | .bor k :: ds, i, ok, h => by
    rw [srcOk, Bool.and_eq_true] at ok
    rcases List.mem_cons.mp h with e | h
    · cases e; exact List.contains_iff_mem.mp ok.1
    · exact srcOk_in ok.2 h
  | .fr _ :: ds, i, ok, h => by rcases List.mem_cons.mp h with e | h; (cases e); exact srcOk_in (ds := ds) ok h
  | .ow _ :: ds, i, ok, h => by cases ok
  | .dk _ :: ds, i, ok, h => by cases ok
  | .un _ :: ds, i, ok, h => by cases ok
  | .cst _ :: ds, i, ok, h => by rcases List.mem_cons.mp h with e | h; (cases e); exact srcOk_in (ds := ds) ok h
  | .scr _ :: ds, i, ok, h => by rcases List.mem_cons.mp h with e | h; (cases e); exact srcOk_in (ds := ds) ok h
  | .exn _ :: ds, i, ok, h => by rcases List.mem_cons.mp h with e | h; (cases e); exact srcOk_in (ds := ds) ok h
  | .gone :: ds, i, ok, h => by rcases List.mem_cons.mp h with e | h; (cases e); exact srcOk_in (ds := ds) ok h
def cFor (lx : List Nat) (ti : DTI) (g : DTG) (tb : DTS) : DTS := fun D st => ti st fun items src cond st1 => srcOk lx src = true ∧ cond st1 ∧ forGo cond g tb D items st1
section
variable {X : Cx} {B : Ba} {lk : List Nat} {pos : Pos}
theorem ds_for (lx : List Nat) {ws : List Nat} {tg iter : Expr} {body : List Stmt} {ti : DTI} {g : DTG} {tb : DTS} (hp : PassesOwn (model X.prog X.w) X.A X.env X.xe) (hc : X.calm = true) (hi : DI X B lk tg iter ti) (hg : DG X B (lx ++ lk) ws tg g) (hb : DSs X B (lx ++ lk) body tb)
    (hs : ∀ x, foldedSetIterable iter X.env x = pure x := by intro _; rfl) : DS X B lk (.For tg iter body [] pos) (cFor lx ti g tb) :=
  PS.weak (ps_for hp hc hi hg hb hs) fun D σ H ⟨lv, st, tm, tv, D0, L, Bt, R, h, k⟩ => by
    refine ⟨lv, st, tm, tv, _, L, R, h, fun items src cond st1 sv J H1 q W hl R1 => ?_⟩
    obtain ⟨hsrc, hc0, hgo⟩ := q
    have L1 : Lk B (locks src sv ++ lv) (lx ++ lk) := ⟨fun p hp => by
      rcases List.mem_append.mp hp with hp | hp
      · exact List.mem_append_left _ (srcOk_in hsrc (locks_in hp))
      · exact List.mem_append_right _ (L.1 p hp), fun p hp => List.mem_append_right _ (L.2 p hp)⟩
    have B1 : Bl (src ++ tm) (lx ++ lk) := fun i hi => by
      rcases List.mem_append.mp hi with hi | hi
      · exact List.mem_append_left _ (srcOk_in hsrc hi)
      · exact List.mem_append_right _ (Bt i hi)
    refine ⟨fun i m σ H => m = items.length - i ∧ i ≤ items.length ∧ ∃ st, Rel X.K B (locks src sv ++ lv) st (src ++ tm) σ (sv ++ tv) H ∧ cond st ∧ forGo cond g tb D0 (items.drop i) st, ⟨items.length, by simp, Nat.zero_le _, st1, R1.lockAll hl, hc0, hgo⟩, ?_⟩
    rintro i m σ2 H2 ⟨rfl, hi, st2, R2, hc2, hgo2⟩
    by_cases hlt : i < items.length
    · have e : items[i]? = some items[i] := List.getElem?_eq_getElem hlt
      obtain ⟨go, yl⟩ := W.go _ _ _ _ _ _ i _ hc2 R2 e
      refine .inr ⟨go, fun σ H => ∃ st, Rel X.K B (locks src sv ++ lv) st (src ++ tm) σ (sv ++ tv) H ∧ cond st ∧ forGo cond g tb D0 (items.drop (i + 1)) st, fun σ' H' n => ⟨items.length - (i + 1), by omega, rfl, hlt, n⟩, fun x H' y => ?_⟩
      rw [List.drop_eq_getElem_cons hlt, forGo] at hgo2
      refine ⟨_, st2, .fr items[i], src ++ tm, sv ++ tv, _, L1, B1, yl x H' y, hgo2, fun st3 σ3 H3 q3 _ R3 => ?_⟩
      refine ⟨_, st3, src ++ tm, sv ++ tv, _, L1, B1, R3, q3, ⟨fun st4 σ4 H4 q4 R4 => ⟨st4, R4, q4.1, q4.2⟩, fun d st4 v σ4 H4 q4 R4 => k.rt d st4 v σ4 H4 q4 (Rel.under hl R4.unlock), fun st4 σ4 H4 q4 R4 => k.nx _ _ _ q4 (Rel.popAll hl.symm R4.unlock), fun st4 σ4 H4 q4 R4 => ⟨st4, R4, q4.1, q4.2⟩⟩⟩
    · have e : i = items.length := by omega
      subst e
      rw [List.drop_length, forGo] at hgo2
      exact .inl ⟨W.stop _ _ _ _ _ _ hc2 R2, k.nx _ _ _ hgo2 (Rel.popAll hl.symm R2.unlock)⟩
/-! ### while -/
def cWhile (c : DTT) (tb : DTS) : DTS := fun D st => ∃ W : Nat → List Vl → Prop, (∃ m, W m st) ∧ ∀ m st, W m st → c st fun b st1 => if b = true then tb { D with nx := fun st' => ∃ m', m' < m ∧ W m' st', ct := fun st' => ∃ m', m' < m ∧ W m' st', bk := D.nx } st1 else D.nx st1
theorem ds_while {c : Expr} {body : List Stmt} {tc : DTT} {tb : DTS} (hp : PassesOwn (model X.prog X.w) X.A X.env X.xe) (hc : DC X B lk c tc) (hb : DSs X B lk body tb) : DS X B lk (.While c body [] pos) (cWhile tc tb) :=
  PS.weak (ps_while hp hc hb) fun D σ H ⟨lv, st, tm, tv, D0, L, Bt, R, h, k⟩ => by
    obtain ⟨W, ⟨m0, w0⟩, turn⟩ := h
    refine ⟨fun m σ H => ∃ st, Rel X.K B lv st tm σ tv H ∧ W m st, ⟨m0, st, R, w0⟩, ?_⟩
    rintro m σ2 H2 ⟨st2, R2, w2⟩
    refine ⟨lv, st2, tm, tv, _, L, R2, turn m st2 w2, fun b st3 H3 q R3 => ?_⟩
    cases b with
    | true =>
      rw [if_pos rfl] at q ⊢
      exact ⟨fun σ H => ∃ m', m' < m ∧ ∃ st, Rel X.K B lv st tm σ tv H ∧ W m' st, fun σ' H' n => n, lv, st3, tm, tv, _, L, Bt, R3, q,
        ⟨fun st4 σ4 H4 ⟨m', hm, w4⟩ R4 => ⟨m', hm, st4, R4, w4⟩, k.rt, fun st4 σ4 H4 q4 R4 => k.nx _ _ _ q4 R4, fun st4 σ4 H4 ⟨m', hm, w4⟩ R4 => ⟨m', hm, st4, R4, w4⟩⟩⟩
    | false => rw [if_neg Bool.false_ne_true] at q ⊢; exact k.nx _ _ _ q R3
end

/-! ### list comprehensions -/
/-- the slots ws forgotten -/
def wipeD (ws : List Nat) (st : List Vl) : List Vl := match ws with
  | [] => st
  | w :: ws => (wipeD ws st).set w .gone
/-- .. as they were -/
def rst (st0 : List Vl) (ws : List Nat) (st : List Vl) : List Vl := match ws with
  | [] => st
  | w :: ws => (rst st0 ws st).set w ((st0[w]?).getD .gone)
def frozen : Vl → Bool
  | .fr _ => true
  | .cst _ => true
  | .gone => true
  | _ => false
def frozenAt (st : List Vl) (ws : List Nat) : Bool := ws.all fun w => frozen ((st[w]?).getD .gone)
def lcGo (ws : List Nat) (cond : List Vl → Prop) (g : DTG) (tt : DTT) (te : DT) (Q : List PyData → List Vl → Prop) : List PyData → List PyData → List Vl → Prop
  | [], acc, st => Q acc st
  | d :: ds, acc, st => g (.fr d) st fun st2 => tt st2 fun b st3 => if b = true then te st3 fun y st4 => (match y with
      | .fr z => acc.length < sizeLine ∧ cond (wipeD ws st4) ∧ lcGo ws cond g tt te Q ds (acc ++ [z]) (wipeD ws st4)
      | _ => False) else cond (wipeD ws st3) ∧ lcGo ws cond g tt te Q ds acc (wipeD ws st3)
def cLc (lx ws : List Nat) (ti : DTI) (g : DTG) (tt : DTT) (te : DT) : DT := fun st Q => ti st fun items src cond st1 => srcOk lx src = true ∧ frozenAt st1 ws = true ∧ cond (wipeD ws st1) ∧
  lcGo ws cond g tt te (fun acc st' => Q (.ow acc) (rst st1 ws st')) items [] (wipeD ws st1)
/-- no tests -/
def cYes : DTT := fun st Q => Q true st
abbrev DTs (X : Cx) (B : Ba) (lk : List Nat) (es : List Expr) (t : DTT) : Prop := PTs X es (LT X.K B lk t)
theorem PTs.weak {X : Cx} {e : List Expr} {t t' : TT} (h : PTs X e t) (i : ∀ σ H Q, t' σ H Q → t σ H Q) : PTs X e t' := ⟨fun pins s σ H Q I q => h.run pins s σ H Q I (i σ H Q q)⟩
theorem dts_nil {X : Cx} {B : Ba} {lk : List Nat} : DTs X B lk [] cYes := PTs.weak pts_nil fun σ H Q ⟨lv, st, tm, tv, Q0, L, R, h, k⟩ => k _ _ _ h R
theorem dts_one {X : Cx} {B : Ba} {lk : List Nat} {c : Expr} {t : DTT} (h : DC X B lk c t) : DTs X B lk [c] t := pts_one h

section
variable {K : PySem.W.Frag} {B : Ba} {lv : List (Nat × V)} {st tm : List Vl} {σ : L2.St} {tv : List V} {H H' : Hp} {F F' : Addr → Prop} {O O' : Addr → Option Ow} {v : V} {d : Vl} {a p : Addr}
theorem wipeD_len (st : List Vl) : ∀ ws : List Nat, (wipeD ws st).length = st.length
  | [] => rfl
  | w :: ws => by rw [wipeD, List.length_set, wipeD_len st ws]
theorem wipeD_at {i : Nat} {d : Vl} : ∀ {ws : List Nat}, (wipeD ws st)[i]? = some d → d = .gone ∨ (st[i]? = some d ∧ i ∉ ws)
  | [], h => .inr ⟨h, by simp⟩
  | w :: ws, h => by
    rw [wipeD] at h
    by_cases e : w = i
    · subst e
      by_cases hl : w < (wipeD ws st).length
      · rw [List.getElem?_set_self hl] at h; cases h; exact .inl rfl
      · rw [List.getElem?_eq_none (by rw [List.length_set]; exact Nat.not_lt.mp hl)] at h; cases h
    · rw [List.getElem?_set_ne e] at h
      rcases wipeD_at h with z | ⟨z, y⟩
      · exact .inl z
      · exact .inr ⟨z, by simp only [List.mem_cons, not_or]; exact ⟨fun q => e q.symm, y⟩⟩
theorem wipe_wipe : ∀ (ws : List Nat) (us : List Nat), (∀ i ∈ us, i ∈ ws) → wipe (wipe σ ws) us = wipe σ ws := by
  have key : ∀ (τ : L2.St) (l : List Nat) (i : Nat), i ∈ l → i < τ.length → (wipe τ l)[i]? = some none := by
    intro τ l i
    induction l with
    | nil => intro h; cases h
    | cons w l ih =>
      intro h hi
      rw [wipe]
      by_cases e : w = i
      · subst e; rw [List.getElem?_set_self (by rw [wipe_length]; exact hi)]
      · rw [List.getElem?_set_ne e]
        rcases List.mem_cons.mp h with z | z
        · exact absurd z.symm e
        · exact ih z hi
  intro ws us
  induction us with
  | nil => intro _; rfl
  | cons u us ih =>
    intro h
    rw [wipe, ih fun i hi => h i (List.mem_cons_of_mem _ hi)]
    refine List.ext_getElem? fun i => ?_
    by_cases e : u = i
    · subst e
      by_cases hi : u < (wipe σ ws).length
      · rw [List.getElem?_set_self hi, key σ ws u (h u List.mem_cons_self) (by rw [wipe_length] at hi; exact hi)]
      · rw [List.getElem?_eq_none (by rw [List.length_set]; exact Nat.not_lt.mp hi), List.getElem?_eq_none (Nat.not_lt.mp hi)]
    · rw [List.getElem?_set_ne e]
theorem wipe_at {i : Nat} : ∀ {ws : List Nat}, i ∉ ws → (wipe σ ws)[i]? = σ[i]?
  | [], _ => rfl
  | w :: ws, h => by
    simp only [List.mem_cons, not_or] at h
    rw [wipe, List.getElem?_set_ne (fun e => h.1 e.symm)]
    exact wipe_at h.2
theorem wipe_eq {σ σ' : L2.St} {us : List Nat} : ∀ {ws : List Nat}, Fs us σ σ' → (∀ i ∈ us, i ∈ ws) → wipe σ' ws = wipe σ ws := by
  intro ws ⟨hl, hf⟩ hu
  refine List.ext_getElem? fun i => ?_
  by_cases hi : i ∈ ws
  · have key : ∀ (τ : L2.St) (l : List Nat), i ∈ l → (wipe τ l)[i]? = if i < τ.length then some none else none := by
      intro τ l
      induction l with
      | nil => intro h; cases h
      | cons w l ih =>
        intro h
        rw [wipe]
        by_cases e : w = i
        · subst e
          rw [List.getElem?_set]
          simp only [wipe_length, if_true]
        · rw [List.getElem?_set_ne e]
          rcases List.mem_cons.mp h with z | z
          · exact absurd z.symm e
          · exact ih z
    rw [key σ' ws hi, key σ ws hi, hl]
  · rw [wipe_at hi, wipe_at hi]
    exact hf i (fun z => hi (hu i z))
/-- the block's own slots forgotten, aliases among the temps too -/
def unb : Vl → Vl
  | .bor _ => .gone
  | d => d
theorem TmR.unb (σ' : L2.St) : ∀ {tm : List Vl} {tv : List V}, TmR K F O H σ tm tv → TmR K F O H σ' (tm.map DL.unb) tv
  | [], [], _ => trivial
  | d :: tm, v :: tv, ⟨h, r⟩ => by
    refine ⟨.inr ?_, TmR.unb σ' r⟩
    rw [List.length_map]
    rcases h with ⟨i, e, _⟩ | h
    · subst e; exact trivial
    · cases d with
      | bor _ => exact h.elim
      | _ => exact h
  | [], _ :: _, h => h.elim
  | _ :: _, [], h => h.elim
theorem TmR.reb {F' : Addr → Prop} {O' : Addr → Option Ow} : ∀ {tm : List Vl} {tv : List V}, TmR K F O H σ tm tv → TmR K F' O' H' σ (tm.map DL.unb) tv → TmR K F' O' H' σ tm tv
  | [], [], _, _ => trivial
  | d :: tm, v :: tv, ⟨h, r⟩, ⟨h', r'⟩ => by
    refine ⟨?_, TmR.reb r r'⟩
    rcases h with ⟨i, e, h⟩ | h
    · exact .inl ⟨i, e, h⟩
    · rw [List.length_map] at h'
      cases d with
      | bor _ => exact h.elim
      | _ =>
        rcases h' with ⟨i, e, _⟩ | h'
        · cases e
        · exact .inr h'
  | [], _ :: _, h, _ => h.elim
  | _ :: _, [], h, _ => h.elim
theorem RelX.wipe {ws : List Nat} (R : RelX K B lv st tm σ tv H F O) (hb : ∀ i, Vl.bor i ∈ tm → i ∉ ws) (hl : ∀ p ∈ lv, p.1 ∉ ws) : RelX K B lv (wipeD ws st) tm (L2.wipe σ ws) tv H F O := by
  refine ⟨by rw [wipeD_len, wipe_length]; exact R.len, fun i d e => ?_, R.tp.keep (fun _ f => f) (fun _ _ e _ => e) _ (fun _ _ _ e => e) (fun _ _ _ _ _ e => e) (fun i u hi e => by rw [wipe_at (hb i hi)]; exact e), R.fo, R.oh, R.fh, R.fr, R.mi, R.f0, R.f1, fun p hp => by rw [wipe_at (hl p hp)]; exact R.lk p hp⟩
  rcases wipeD_at e with z | ⟨z, y⟩
  · exact .inl z
  · rcases R.sl i d z with x | ⟨u, h1, h2⟩
    · exact .inl x
    · exact .inr ⟨u, by rw [wipe_at y]; exact h1, h2⟩
/-- one more item at the list that a temp owns -/
theorem RelX.appTmp {z : PyData} {y : V} {acc : List PyData} (hz : Rp K F H y z) (R : RelX K B lv st (.ow acc :: tm) σ (v :: tv) H F O) : ∃ a vs, v = .ref a ∧ H a = some (.lst vs) ∧ vs.length = acc.length ∧ Kp F H (upd H a (.lst (vs ++ [y]))) ∧ RelX K B lv st (.ow (acc ++ [z]) :: tm) σ (v :: tv) (upd H a (.lst (vs ++ [y]))) F O := by
  obtain ⟨a, vs, rfl, ho, h, r⟩ := R.top (d := .ow acc) (fun i e => by cases e)
  have kp : Kp F H (upd H a (.lst (vs ++ [y]))) := fun b x e hb => by
    rw [upd_ne]
    · exact e
    · rintro rfl
      rcases hb with f | s
      · rw [R.fo _ f] at ho; cases ho
      · rw [h] at e; cases e; exact s
  have R2 := R.pop
  refine ⟨a, vs, rfl, h, r.length, kp, R2.len, fun j d q => ?_, ⟨.inr ⟨a, _, rfl, ho, upd_same, (r.append (.one hz)).keep (fun _ f => f) kp⟩, R2.tp.keep (fun _ f => f) kp σ (fun b n _ e => e) (fun b x n hn e1 e2 => ?_) (fun _ _ _ e => e)⟩, R2.fo, fun b w e => ?_, fun b f => ?_, fun b x e n => ?_, R2.mi, R2.f0, R2.f1, R2.lk⟩
  · rcases R2.sl j d q with e | ⟨u, g1, g2⟩
    · exact .inl e
    · refine .inr ⟨u, g1, g2.keep (fun _ f => f) kp (fun b e => e) (fun b x e1 e2 => ?_)⟩
      rw [upd_ne]
      · exact e2
      · rintro rfl; rw [ho] at e1; cases e1
  · rw [upd_ne]
    · exact e2
    · rintro rfl; rw [ho] at e1; cases e1; exact absurd hn (Nat.lt_irrefl _)
  · by_cases q : b = a
    · subst q; rw [upd_same]; exact ⟨_, rfl, fun z => z⟩
    · rw [upd_ne q]; exact R2.oh b w e
  · by_cases q : b = a
    · subst q; rw [upd_same]; intro z; cases z
    · rw [upd_ne q]; exact R2.fh b f
  · rw [upd_ne]
    · exact R2.fr b x e n
    · rintro rfl
      rcases R2.mi _ _ ho with z | z
      · exact n z
      · rw [e] at z; cases z
/-- what is walked lies on other temps -/
theorem TmR.sink {lx : List Nat} {σ' : L2.St} (hF : ∀ a, F a → F' a) (kp : Kp F H H') {tm' : List Vl} {tv' : List V} (T : TmR K F' O' H' σ' tm' tv') : ∀ {src : List Vl} {sv : List V}, srcOk lx src = true → (∀ i v, Vl.bor i ∈ src → σ[i]? = some (some v) → σ'[i]? = some (some v)) → sv.length = src.length → TmR K F O H σ (src ++ tm) (sv ++ tv) → TmR K F' O' H' σ' (src ++ tm') (sv ++ tv')
  | [], [], _, _, _, _ => T
  | d :: src, v :: sv, ok, hb, hl, ⟨h, r⟩ => by
    have ok' : srcOk lx src = true := by
      cases d with
      | bor _ => rw [srcOk, Bool.and_eq_true] at ok; exact ok.2
      | ow _ => cases ok
      | dk _ => cases ok
      | un _ => cases ok
      | _ => exact ok
    refine ⟨?_, TmR.sink hF kp T ok' (fun i v hi => hb i v (List.mem_cons_of_mem _ hi)) (Nat.succ.inj hl) r⟩
    rcases h with ⟨i, e, h⟩ | h
    · subst e
      exact .inl ⟨i, rfl, hb i v List.mem_cons_self h⟩
    · cases d with
      | bor _ => exact h.elim
      | ow _ => cases ok
      | dk _ => cases ok
      | un _ => cases ok
      | fr x => exact .inr (Rp.keep hF kp x v h)
      | cst c => exact .inr h
      | gone => exact .inr h
      | scr ns => obtain ⟨a, e, h⟩ := h; exact .inr ⟨a, e, h.keep kp⟩
      | exn x => obtain ⟨a, e, h⟩ := h; exact .inr ⟨a, e, kp _ _ h (.inr trivial)⟩
  | [], _ :: _, _, _, h, _ => by cases h
  | _ :: _, [], _, _, h, _ => by cases h
theorem RelX.withTm {σ' : L2.St} {st' tm' : List Vl} {tv' : List V} (R : RelX K B lv st tm σ tv H F O) (T : TmR K F O H σ tm' tv') : RelX K B lv st tm' σ tv' H F O := ⟨R.len, R.sl, T, R.fo, R.oh, R.fh, R.fr, R.mi, R.f0, R.f1, R.lk⟩
/-- the values of the slots ws, as temps -/
theorem RelX.shelve : ∀ (ws : List Nat), RelX K B lv st tm σ tv H F O → frozenAt st ws = true → ∃ shv : List V, shv.length = ws.length ∧ RelX K B lv st ((ws.map fun w => (st[w]?).getD .gone) ++ tm) σ (shv ++ tv) H F O ∧
    ∀ (i : Nat) w d u, ws[i]? = some w → st[w]? = some d → d ≠ .gone → shv[i]? = some u → σ[w]? = some (some u)
  | [], R, _ => ⟨[], rfl, R, fun i w d u h => by simp at h⟩
  | w :: ws, R, h => by
    rw [frozenAt, List.all_cons, Bool.and_eq_true] at h
    obtain ⟨shv, e1, R1, e3⟩ := RelX.shelve ws R h.2
    have key : ∃ u, VR K F O H (.inr ((ws.map fun w => (st[w]?).getD .gone) ++ tm).length) u ((st[w]?).getD .gone) ∧ ∀ d, st[w]? = some d → d ≠ .gone → σ[w]? = some (some u) := by
      cases q : st[w]? with
      | none => exact ⟨.non, trivial, fun d z => by cases z⟩
      | some d =>
        rcases R.sl w d q with z | ⟨u, h1, h2⟩
        · subst z; exact ⟨.non, trivial, fun d z n => by cases z; exact absurd rfl n⟩
        · refine ⟨u, ?_, fun d' z _ => h1⟩
          rw [q] at h
          have hf := h.1
          cases d with
          | fr x => exact h2
          | cst c => exact h2
          | gone => exact trivial
          | _ => cases hf
    obtain ⟨u, k1, k2⟩ := key
    refine ⟨u :: shv, congrArg (· + 1) e1, R1.push k1, fun i w' d u' h1 h2 h3 h4 => ?_⟩
    cases i with
    | zero => simp at h1 h4; subst h1 h4; exact k2 d h2 h3
    | succ i => exact e3 i w' d u' (by simpa using h1) h2 h3 (by simpa using h4)
/-- .. and back -/
theorem RelX.unshelve {st0 : List Vl} {σ0 : L2.St} : ∀ (ws : List Nat) {shv : List V} {st : List Vl}, shv.length = ws.length → frozenAt st0 ws = true → (∀ (i : Nat) w d u, ws[i]? = some w → st0[w]? = some d → d ≠ .gone → shv[i]? = some u → σ0[w]? = some (some u)) →
    TmR K F O H σ ((ws.map fun w => (st0[w]?).getD .gone) ++ tm) (shv ++ tv) → RelX K B lv st [] σ0 [] H F O → RelX K B lv (rst st0 ws st) [] σ0 [] H F O
  | [], _, st, _, _, _, _, R => R
  | w :: ws, [], _, h, _, _, _, _ => by cases h
  | w :: ws, u :: shv, st, hl, hf, he, ⟨h, r⟩, R => by
    rw [frozenAt, List.all_cons, Bool.and_eq_true] at hf
    have R1 := RelX.unshelve ws (st := st) (Nat.succ.inj hl) hf.2 (fun i w' d u' h1 h2 h3 h4 => he (i + 1) w' d u' (by simpa using h1) h2 h3 (by simpa using h4)) r R
    rw [rst]
    refine R1.setSl ?_
    cases q : st0[w]? with
    | none => exact .inl rfl
    | some d =>
      by_cases hg : d = .gone
      · subst hg; exact .inl rfl
      · refine .inr ⟨u, he 0 w d u rfl q hg rfl, ?_⟩
        have hd : (st0[w]?).getD .gone = d := by rw [q]; rfl
        dsimp only at h
        rw [hd] at h
        have hf1 : frozen d = true := by rw [← hd]; exact hf.1
        show VR K F O H (.inl w) u d
        rcases h with ⟨i, e, _⟩ | h
        · rw [show d = .bor i from e] at hf1; cases hf1
        · cases d with
          | fr x => exact h
          | cst c => exact h
          | gone => exact trivial
          | _ => cases hf1
end
section
variable {X : Cx} {B : Ba} {lk : List Nat} {pos : Pos}
theorem lc_weak (lx ws wg : List Nat) {ti : DTI} {g : DTG} {tt : DTT} {te : DT} (hd : ((lx ++ lk).all fun i => !ws.contains i) = true) (hw : (wg.all fun i => ws.contains i) = true) {σ : L2.St} {H : Hp} {Q : VK} (h : LE X.K B lk (cLc lx ws ti g tt te) σ H Q) :
    tLc (LI X.K B lk ti) (LG X.K B (lx ++ lk) wg g) (LT X.K B (lx ++ lk) tt) (LE X.K B (lx ++ lk) te) ws σ H Q := by
  obtain ⟨lv, st, tm, tv, Q0, L, R, h, k⟩ := h
  refine ⟨lv, st, tm, tv, _, L, R, h, fun items src cond st1 sv J H1 q W hl R1 D hD => ?_⟩
  obtain ⟨hsrc, hfz, hc0, hgo⟩ := q
  have hdis : ∀ i ∈ lx ++ lk, i ∉ ws := fun i hi z => by
    have := List.all_eq_true.mp hd i hi
    rw [List.contains_iff_mem.mpr z] at this
    cases this
  have hwg : ∀ i ∈ wg, i ∈ ws := fun i hi => List.contains_iff_mem.mp (List.all_eq_true.mp hw i hi)
  have L1 : Lk B (locks src sv ++ lv) (lx ++ lk) := ⟨fun p hp => by
    rcases List.mem_append.mp hp with hp | hp
    · exact List.mem_append_left _ (srcOk_in hsrc (locks_in hp))
    · exact List.mem_append_right _ (L.1 p hp), fun p hp => List.mem_append_right _ (L.2 p hp)⟩
  have hbs : ∀ i, Vl.bor i ∈ src → i ∉ ws := fun i hi => hdis i (List.mem_append_left _ (srcOk_in hsrc hi))
  obtain ⟨F1, O1, R2⟩ := R1.lockAll hl
  have Rtm : RelX X.K B (locks src sv ++ lv) st1 tm σ tv H1 F1 O1 := R2.popAll hl
  -- the values of the own names are laid aside
  obtain ⟨shv, hsl, R3, hsh⟩ := RelX.shelve ws (Rtm.withTm (σ' := σ) (st' := st1) (Rtm.tp.unb σ)) hfz
  have R4 : RelX X.K B (locks src sv ++ lv) st1 (.ow [] :: ((ws.map fun w => (st1[w]?).getD .gone) ++ tm.map unb)) σ (.ref D :: (shv ++ tv)) (upd H1 D (.lst [])) F1 _ := R3.newLst (vs := []) (ds := []) hD .nil
  have R5 := R4.wipe (ws := ws) (fun i hi z => by
    rcases List.mem_cons.mp hi with e | hi
    · cases e
    · rcases List.mem_append.mp hi with hi | hi
      · obtain ⟨w, hw1, hw2⟩ := List.mem_map.mp hi
        have hf := List.all_eq_true.mp hfz w hw1
        rw [hw2] at hf; cases hf
      · obtain ⟨y, _, hy⟩ := List.mem_map.mp hi
        cases y <;> cases hy) (fun p hp => hdis _ (L1.1 p hp))
  have T5 := TmR.sink (F' := F1) (H' := upd H1 D (.lst [])) (fun _ f => f) (fun b u e _ => upd_le hD b u e) R5.tp hsrc (fun i v hi e => by rw [wipe_at (hbs i hi)]; exact e) hl R2.tp
  have R6 : Rel X.K B (locks src sv ++ lv) (wipeD ws st1) (src ++ (.ow [] :: ((ws.map fun w => (st1[w]?).getD .gone) ++ tm.map unb))) (L2.wipe σ ws) (sv ++ (.ref D :: (shv ++ tv))) (upd H1 D (.lst [])) := ⟨F1, _, R5.withTm (σ' := σ) (st' := st1) T5⟩
  -- the loop's word
  refine ⟨fun i m H => m = items.length - i ∧ i ≤ items.length ∧ ∃ st acc, Rel X.K B (locks src sv ++ lv) st (src ++ (.ow acc :: ((ws.map fun w => (st1[w]?).getD .gone) ++ tm.map unb))) (L2.wipe σ ws) (sv ++ (.ref D :: (shv ++ tv))) H ∧ cond st ∧
    lcGo ws cond g tt te (fun acc st' => Q0 (.ow acc) (rst st1 ws st')) (items.drop i) acc st, ⟨items.length, by simp, Nat.zero_le _, _, _, R6, hc0, hgo⟩, ?_⟩
  rintro i m H2 ⟨rfl, hi, st2, acc, R7, hc2, hgo2⟩
  by_cases hlt : i < items.length
  · have e : items[i]? = some items[i] := List.getElem?_eq_getElem hlt
    obtain ⟨go, yl⟩ := W.go _ _ _ _ _ _ i _ hc2 R7 e
    refine .inr ⟨go, fun H => ∃ st acc, Rel X.K B (locks src sv ++ lv) st (src ++ (.ow acc :: ((ws.map fun w => (st1[w]?).getD .gone) ++ tm.map unb))) (L2.wipe σ ws) (sv ++ (.ref D :: (shv ++ tv))) H ∧ cond st ∧
      lcGo ws cond g tt te (fun acc st' => Q0 (.ow acc) (rst st1 ws st')) (items.drop (i + 1)) acc st, fun H' n => ⟨items.length - (i + 1), by omega, rfl, hlt, n⟩, fun x H' y => ?_⟩
    rw [List.drop_eq_getElem_cons hlt, lcGo] at hgo2
    have B1 : ∀ acc : List PyData, Bl (src ++ (.ow acc :: ((ws.map fun w => (st1[w]?).getD .gone) ++ tm.map unb))) (lx ++ lk) := fun acc j hj => by
      rcases List.mem_append.mp hj with hj | hj
      · exact List.mem_append_left _ (srcOk_in hsrc hj)
      · rcases List.mem_cons.mp hj with e | hj
        · cases e
        · rcases List.mem_append.mp hj with hj | hj
          · obtain ⟨w, hw1, hw2⟩ := List.mem_map.mp hj
            have hf := List.all_eq_true.mp hfz w hw1
            rw [hw2] at hf; cases hf
          · obtain ⟨z, _, hz⟩ := List.mem_map.mp hj
            cases z <;> cases hz
    refine ⟨_, st2, .fr items[i], _, _, _, L1, B1 acc, yl x H' y, hgo2, fun st3 σ3 H3 q3 f3 R8 => ?_⟩
    have hwe : L2.wipe σ3 ws = L2.wipe σ ws := by
      rw [wipe_eq f3 hwg, wipe_wipe ws ws fun _ h => h]
    -- the turn's end: the own names are forgotten
    have fin : ∀ {stE : List Vl} {accE : List PyData} {HE : Hp}, Rel X.K B (locks src sv ++ lv) stE (src ++ (.ow accE :: ((ws.map fun w => (st1[w]?).getD .gone) ++ tm.map unb))) σ3 (sv ++ (.ref D :: (shv ++ tv))) HE →
        Rel X.K B (locks src sv ++ lv) (wipeD ws stE) (src ++ (.ow accE :: ((ws.map fun w => (st1[w]?).getD .gone) ++ tm.map unb))) (L2.wipe σ ws) (sv ++ (.ref D :: (shv ++ tv))) HE := fun ⟨F, O, RE⟩ => by
      have hh := RE.wipe (ws := ws) (fun i hi z => hdis i (B1 _ i hi) z) (fun p hp => hdis _ (L1.1 p hp))
      rw [hwe] at hh
      exact ⟨F, O, hh⟩
    refine ⟨hwe, ?_⟩
    refine ⟨_, st3, _, _, _, L1, R8, q3, fun b st4 H4 q4 R9 => ?_⟩
    cases b with
    | false =>
      rw [if_neg Bool.false_ne_true] at q4 ⊢
      exact ⟨_, acc, fin R9, q4.1, q4.2⟩
    | true =>
      rw [if_pos rfl] at q4 ⊢
      refine ⟨_, st4, _, _, _, L1, R9, q4, fun y st5 v5 H5 q5 R10 => ?_⟩
      split at q5
      · rename_i z
        obtain ⟨hz1, hz2, hz3⟩ := q5
        obtain ⟨F5, O5, R10⟩ := R10
        have hz : Rp X.K F5 H5 v5 z := R10.top (d := .fr z) (fun i e => by cases e)
        obtain ⟨a, vs, ea, hD5, hlv, kp, R11⟩ := RelX.appTmp hz (R10.pop.popAll hl)
        cases ea
        refine ⟨vs, hD5, by rw [hlv]; exact hz1, wipeD ws st5, acc ++ [z], fin ⟨F5, O5, R11.withTm (σ' := σ) (st' := st1) (TmR.sink (fun _ f => f) kp R11.tp hsrc (fun _ _ _ e => e) hl R10.pop.tp)⟩, hz2, hz3⟩
      · exact q5.elim
  · have e : i = items.length := by omega
    subst e
    rw [List.drop_length, lcGo] at hgo2
    refine .inl ⟨W.stop _ _ _ _ _ _ hc2 R7, ?_⟩
    obtain ⟨F7, O7, R7⟩ := R7
    have R8 := R7.popAll hl
    have T8 : TmR X.K F7 O7 H2 (L2.wipe σ ws) ((ws.map fun w => (st1[w]?).getD .gone) ++ tm.map unb) (shv ++ tv) := R8.tp.2
    have hshl : shv.length = (ws.map fun w => (st1[w]?).getD .gone).length := by rw [hsl, List.length_map]
    have T9 : TmR X.K F7 O7 H2 (L2.wipe σ ws) (tm.map unb) tv := (R8.pop.popAll hshl).tp
    have T10 : TmR X.K F7 O7 H2 σ tm tv := by
      have := T9.unb σ
      rw [List.map_map, show (unb ∘ unb) = unb from funext fun d => by cases d <;> rfl] at this
      exact Rtm.tp.reb this
    have hso : ∀ l : List Nat, frozenAt st1 l = true → srcOk lx (l.map fun w => (st1[w]?).getD .gone) = true := by
      intro l
      induction l with
      | nil => intro _; rfl
      | cons w l ih =>
        intro h
        rw [frozenAt, List.all_cons, Bool.and_eq_true] at h
        have h2 := ih h.2
        rw [List.map_cons]
        revert h2
        generalize (l.map fun w => (st1[w]?).getD .gone) = r
        intro h2
        have h1 := h.1
        cases hx : (st1[w]?).getD .gone with
        | fr _ => exact h2
        | cst _ => exact h2
        | gone => exact h2
        | _ => rw [hx] at h1; cases h1
    have T11 : TmR X.K F7 O7 H2 σ ((ws.map fun w => (st1[w]?).getD .gone) ++ tm) (shv ++ tv) :=
      TmR.sink (fun _ f => f) (fun _ _ e _ => e) T10 (hso ws hfz) (fun i v hi e => by
        obtain ⟨w, hw1, hw2⟩ := List.mem_map.mp hi
        have hf := List.all_eq_true.mp hfz w hw1
        rw [hw2] at hf; cases hf) hshl T8
    have RB : RelX X.K B (locks src sv ++ lv) st2 [] σ [] H2 F7 O7 := by
      refine ⟨by have := R8.len; rw [wipe_length] at this; exact this, fun i d e => ?_, trivial, R8.fo, R8.oh, R8.fh, R8.fr, R8.mi, R8.f0, R8.f1, fun p hp => (wipe_some (R8.lk p hp)).1⟩
      rcases R8.sl i d e with z | ⟨u, h1, h2⟩
      · exact .inl z
      · exact .inr ⟨u, (wipe_some h1).1, h2⟩
    have RC := RelX.unshelve ws hsl hfz hsh T8 RB
    have RD : RelX X.K B (locks src sv ++ lv) (rst st1 ws st2) (.ow acc :: ((ws.map fun w => (st1[w]?).getD .gone) ++ tm)) σ (.ref D :: (shv ++ tv)) H2 F7 O7 := by
      refine RC.withTm (σ' := σ) (st' := st1) ⟨.inr ?_, T11⟩
      have := R8.top (d := .ow acc) (fun i e => by cases e)
      rw [List.length_append, List.length_map (f := unb)] at this
      rw [List.length_append]
      exact this
    exact k _ _ _ _ hgo2 (Rel.under hshl (Rel.unlock ⟨F7, O7, RD⟩))
variable {elt tg iter : Expr} {ifs : List Expr} {scope : Scope} {own : List (Str × Nat)}
/-- [elt for tg in iter if ..] -/
theorem de_lc (lx : List Nat) {wg : List Nat} {ti : DTI} {g : DTG} {tt : DTT} {te : DT} (hc : X.calm = true) (hN : X.N.Nodup) (hi : DI X B lk tg iter ti) (ok : BlkOk X.N X.env.scope scope own)
    (hd : ((lx ++ lk).all fun i => !(own.map (·.2)).contains i) = true) (hw : (wg.all fun i => (own.map (·.2)).contains i) = true)
    (hg : ∀ (s : Shared) (H : Hp) (C : Addr) (cl : List (Str × Addr)) (fp : List Addr), DG (X.blk s H scope (compEnvC scope cl C X.env) fp) B (lx ++ lk) wg tg g)
    (ht : ∀ (s : Shared) (H : Hp) (C : Addr) (cl : List (Str × Addr)) (fp : List Addr), DTs (X.blk s H scope (compEnvC scope cl C X.env) fp) B (lx ++ lk) ifs tt)
    (he : ∀ (s : Shared) (H : Hp) (C : Addr) (cl : List (Str × Addr)) (fp : List Addr), DE (X.blk s H scope (compEnvC scope cl C X.env) fp) B (lx ++ lk) elt te)
    (hs : ∀ x, foldedSetIterable iter X.env x = pure x := by intro _; rfl) : DE X B lk (.ListComp elt [⟨tg, iter, ifs, 0⟩] scope pos) (cLc lx (own.map (·.2)) ti g tt te) :=
  PE.weak (pe_lc hc hN hi ok hg ht he hs) fun _ _ _ h => lc_weak lx _ wg hd hw h
/-- y = [..] on one line, y a local: te' is the comprehension, perhaps frozen -/
theorem ds_setLc (lx : List Nat) (i : Nat) {y : Str} {py spos : Pos} {wg : List Nat} {ti : DTI} {g : DTG} {tt : DTT} {te te' : DT} (hle : ∀ σ H Q, LE X.K B lk te' σ H Q → LE X.K B lk (cLc lx (own.map (·.2)) ti g tt te) σ H Q)
    (hc : X.calm = true) (hN : X.N.Nodup) (hl : lk.contains i = false) (hy : X.N[i]? = some y) (hyl : X.env.scope.names.lookup y = some .local)
    (hsw : swapsWith (.ListComp elt [⟨tg, iter, ifs, 0⟩] scope pos) (some (.Name y py)) spos.line X.env = pure true) (hi : DI X B lk tg iter ti) (ok : BlkOk X.N X.env.scope scope own)
    (hd : ((lx ++ lk).all fun i => !(own.map (·.2)).contains i) = true) (hw : (wg.all fun i => (own.map (·.2)).contains i) = true)
    (hg : ∀ (s : Shared) (H : Hp) (C : Addr) (cl : List (Str × Addr)) (fp : List Addr), DG (X.blk s H scope (compEnvC scope cl C X.env) fp) B (lx ++ lk) wg tg g)
    (ht : ∀ (s : Shared) (H : Hp) (C : Addr) (cl : List (Str × Addr)) (fp : List Addr), DTs (X.blk s H scope (compEnvC scope cl C X.env) fp) B (lx ++ lk) ifs tt)
    (he : ∀ (s : Shared) (H : Hp) (C : Addr) (cl : List (Str × Addr)) (fp : List Addr), DE (X.blk s H scope (compEnvC scope cl C X.env) fp) B (lx ++ lk) elt te)
    (hs : ∀ x, foldedSetIterable iter X.env x = pure x := by intro _; rfl) : DS X B lk (.Assign [.Name y py] (.ListComp elt [⟨tg, iter, ifs, 0⟩] scope pos) spos) (cAsg te' (gNm i)) :=
  PS.weak (L2.ps_setLc hc hN hy hyl hsw hi ok hg ht he hs) fun D σ H ⟨lv, st, tm, tv, D0, L, Bt, R, h, k⟩ => by
    have hn : i ∉ lk := fun z => by rw [List.contains_iff_mem.mpr z] at hl; cases hl
    have h2 : LE X.K B lk te' σ H (fun x H1 => D.nx (σ.set i (some x)) H1) := ⟨lv, st, tm, tv, _, L, R, h, fun d st' v H' q R' => k.nx _ _ _ q.2.2 (R'.store q.1 q.2.1 (fun z => hn (Bt i z)) (fun p hp z => hn (z ▸ L.1 p hp)))⟩
    exact lc_weak lx _ wg hd hw (hle _ _ _ h2)
end
end DL

/-! The data layer, part 7: what is walked: lists, tuples, ranges, enumerate, zip. -/
namespace DL
open PySem PySem.Spec PyProof.Rows L2

/-! ### lists, tuples, ranges -/
/-- a thing walked that nobody owns (a fresh list is frozen) or an alias -/
def cSeqI (te : DT) : DTI := fun st Q => te st fun d st' => match d with
  | .ow ds => Q ds [.fr (.list ds)] (fun _ => True) st'
  | .fr (.list ds) => Q ds [d] (fun _ => True) st'
  | .fr (.tuple ds) => Q ds [d] (fun _ => True) st'
  | .scr ns => Q (ns.map .int) [d] (fun _ => True) st'
  | .bor i => (match st'[i]? with
    | some (.ow ds) => Q ds [d] (fun st => st[i]? = some (.ow ds)) st'
    | _ => False)
  | _ => False
section
variable {K : PySem.W.Frag} {B : Ba} {lv : List (Nat × V)} {st tm : List Vl} {σ : L2.St} {tv : List V} {H : Hp} {v : V} {d : Vl}
/-- a source: at each state in which cond holds, its V-list is known -/
theorem wk_list {a : Addr} {ds : List PyData} {cond : List Vl → Prop} (h : ∀ st, cond st → pyO st d = some (.list ds)) : Wk K B (Itl K a) ds [d] [.ref a] cond where
  go := fun lv st tm σ tv H i x hc R e => by
    obtain ⟨F, O, R⟩ := R
    obtain ⟨a', vs, e1, h1, r⟩ := R.lst (h st hc)
    cases e1
    obtain ⟨w, hw, rw⟩ := r.get e
    refine ⟨⟨vs, w, h1, hw⟩, fun y H' z => ?_⟩
    obtain ⟨rfl, z⟩ := z
    have e2 := z vs h1
    rw [hw] at e2
    cases e2
    exact ⟨F, O, R.push (d := .fr x) rw⟩
  stop := fun lv st tm σ tv H hc R => by
    obtain ⟨F, O, R⟩ := R
    obtain ⟨a', vs, e1, h1, r⟩ := R.lst (h st hc)
    cases e1
    exact ⟨vs, h1, by rw [r.length]; exact Nat.le_refl _⟩
theorem wk_tup {a : Addr} {ds : List PyData} {cond : List Vl → Prop} (h : ∀ st, cond st → pyO st d = some (.tuple ds)) : Wk K B (Itt K a) ds [d] [.ref a] cond where
  go := fun lv st tm σ tv H i x hc R e => by
    obtain ⟨F, O, R⟩ := R
    obtain ⟨a', vs, e1, h1, r⟩ := R.tup (h st hc)
    cases e1
    obtain ⟨w, hw, rw⟩ := r.get e
    refine ⟨⟨vs, w, h1, hw⟩, fun y H' z => ?_⟩
    obtain ⟨rfl, z⟩ := z
    have e2 := z vs h1
    rw [hw] at e2
    cases e2
    exact ⟨F, O, R.push (d := .fr x) rw⟩
  stop := fun lv st tm σ tv H hc R => by
    obtain ⟨F, O, R⟩ := R
    obtain ⟨a', vs, e1, h1, r⟩ := R.tup (h st hc)
    cases e1
    exact ⟨vs, h1, by rw [r.length]; exact Nat.le_refl _⟩
theorem wk_range {lo : Int} {n : Nat} {cond : List Vl → Prop} : Wk K B (Itr lo n) ((List.range n).map fun (i : Nat) => PyData.int (lo + (i : Int))) [] [] cond where
  go := fun lv st tm σ tv H i x hc R e => by
    have hi : i < n := by
      by_cases h : i < n
      · exact h
      · rw [List.getElem?_eq_none (by rw [List.length_map, List.length_range]; exact Nat.not_lt.mp h)] at e; cases e
    rw [List.getElem?_map, List.getElem?_range hi] at e
    have e' : PyData.int (lo + (i : Int)) = x := Option.some.inj e
    refine ⟨hi, fun y H' z => ?_⟩
    obtain ⟨rfl, rfl⟩ := z
    rw [← e']
    exact R.int _
  stop := fun lv st tm σ tv H hc R => by
    show n ≤ _
    rw [List.length_map, List.length_range]
    exact Nat.le_refl _
end
section
variable {X : Cx} {B : Ba} {lk : List Nat} {tg e : Expr} {te : DT}
def iSeq (K : PySem.W.Frag) (tl : TE) : TI := fun σ H R => tl σ H fun x H1 => ∃ a, x = .ref a ∧ (((∃ xs, SqL K H1 a xs) ∧ R (Itl K a) H1) ∨ ((∃ xs, SqT K H1 a xs) ∧ R (Itt K a) H1))
theorem pi_seq {tl : TE} (hl : PE X e tl) : PI X tg e (iSeq X.K tl) := by
  refine ⟨fun pins s σ H R I h => ?_⟩
  refine thn (hl.run pins s σ H _ I h) fun v s1 ⟨x, H1, I1, r1, q1⟩ => ?_
  obtain ⟨a, e, q1⟩ := q1
  subst e
  cases r1
  have I2 : ∀ {o : Obj}, Inv X pins σ H1 { s1 with heap := s1.heap.push o } := I1.kept (t' := s1.toks) fun b o e => Heap.get?_push_of_some _ e
  have hf : ∀ b ∈ [s1.heap.objs.size], FpOk X pins H1 b := fun b hb => by
    have e : b = s1.heap.objs.size := by simpa using hb
    subst e
    exact I1.fpOk (Nat.le_refl _) (I1.hok.fresh (Nat.le_refl _))
  rcases q1 with ⟨⟨xs, hq⟩, q⟩ | ⟨⟨xs, hq⟩, q⟩
  · obtain ⟨its, rv, p, hz⟩ := I1.list hq
    refine wpAny_pyIter_list p.isList ?_
    exact ⟨s1.heap.objs.size, [s1.heap.objs.size], _, _, H1, rfl, I2, turn_list a _, ⟨_, Heap.get?_push_size _ rfl, rfl, rfl⟩, hf, q⟩
  · obtain ⟨its, rv, p, hz⟩ := I1.tuple hq
    refine wpAny_pyIter_tuple (show s1.heap.IsTuple a its.toArray from p) ?_
    exact ⟨s1.heap.objs.size, [s1.heap.objs.size], _, _, H1, rfl, I2, turn_tuple a _, ⟨_, Heap.get?_push_size _ rfl, rfl, rfl⟩, hf, q⟩
theorem di_seq (he : DE X B lk e te) : DI X B lk tg e (cSeqI te) := PI.weak (pi_seq he) fun σ H R ⟨lv, st, tm, tv, Q0, L, Rl, h, k⟩ => by
  refine ⟨lv, st, tm, tv, _, L, Rl, h, fun d st' v H' q R' => ?_⟩
  split at q
  · rename_i ds
    have R2 := R'.frzTop
    obtain ⟨a, vs, rfl, h1, _⟩ := R2.lst (d := .fr (.list ds)) rfl
    exact ⟨a, rfl, .inl ⟨⟨vs, h1⟩, k ds [.fr (.list ds)] _ st' [.ref a] _ _ q (wk_list fun _ _ => rfl) rfl R2⟩⟩
  · rename_i ds
    obtain ⟨a, vs, rfl, h1, _⟩ := R'.lst (d := .fr (.list ds)) rfl
    exact ⟨a, rfl, .inl ⟨⟨vs, h1⟩, k ds [.fr (.list ds)] _ st' [.ref a] _ _ q (wk_list fun _ _ => rfl) rfl R'⟩⟩
  · rename_i ds
    obtain ⟨a, vs, rfl, h1, _⟩ := R'.tup (d := .fr (.tuple ds)) rfl
    exact ⟨a, rfl, .inr ⟨⟨vs, h1⟩, k ds [.fr (.tuple ds)] _ st' [.ref a] _ _ q (wk_tup fun _ _ => rfl) rfl R'⟩⟩
  · rename_i ns
    obtain ⟨a, vs, rfl, h1, _⟩ := R'.lst (d := .scr ns) rfl
    exact ⟨a, rfl, .inl ⟨⟨vs, h1⟩, k (ns.map .int) [.scr ns] _ st' [.ref a] _ _ q (wk_list fun _ _ => rfl) rfl R'⟩⟩
  · rename_i i
    split at q
    · rename_i ds e1
      obtain ⟨a, vs, rfl, h1, _⟩ := R'.lst (d := .bor i) (ds := ds) (by simp only [pyO, e1])
      exact ⟨a, rfl, .inl ⟨⟨vs, h1⟩, k ds [.bor i] (fun st => st[i]? = some (.ow ds)) st' [.ref a] _ _ q (wk_list fun st e => by simp only [pyO, e]) rfl R'⟩⟩
    · exact q.elim
  · exact q.elim
/-- range -/
def rng (lo hi : Int) : List PyData := (List.range (hi - lo).toNat).map fun (i : Nat) => PyData.int (lo + (i : Int))
def cRng1 (ta : DTA) : DTI := fun st Q => ta st fun ds st' => match ds with
  | [.fr (.int j)] => -(2 ^ 62) ≤ j ∧ j < 2 ^ 62 ∧ Q (rng 0 j) [] (fun _ => True) st'
  | _ => False
theorem di_range1 {a : Expr} {ta : DTA} {p pos : Pos} (hg : Gl X "range") (hm : X.mg "range" = none) (ha : DA X B lk [a] ta) (hs : starEach [a] X.env = [(false, eval a X.env)] := by rfl) : DI X B lk tg (.Call (.Name "range" p) [a] [] pos) (cRng1 ta) :=
  PI.weak (pi_range1 hg hm ha hs) fun σ H R ⟨lv, st, tm, tv, Q0, L, Rl, h, k⟩ => by
    refine ⟨lv, st, tm, tv, _, L, Rl, h, fun ds st' vs H' q hl R' => ?_⟩
    split at q
    · rename_i j
      match vs, hl with
      | [v], _ =>
        have R2 : Rel X.K B lv st' (.fr (.int j) :: tm) σ (v :: tv) H' := R'
        obtain rfl := R2.isInt
        refine ⟨j, rfl, q.1, q.2.1, ?_⟩
        have W : Wk X.K B (Itr 0 j.toNat) (rng 0 j) [] [] (fun _ => True) := by
          unfold rng; rw [Int.sub_zero]; exact wk_range
        exact k _ [] _ st' [] _ _ q.2.2 W rfl R2.pop
    · exact q.elim
end

/-! ### enumerate, zip: from the library's Goes -/
/-- a list or a tuple -/
inductive SK where
  | l
  | t
def Sq (K : PySem.W.Frag) (H : Hp) : SK → Addr → List V → Prop
  | .l, a, xs => SqL K H a xs
  | .t, a, xs => SqT K H a xs
def IsSq (h : Heap) : SK → Addr → Array Value → Prop
  | .l, a, its => h.IsList a its
  | .t, a, its => h.IsTuple a its
def IsIt (h : Heap) : SK → Addr → Addr → Nat → Prop
  | .l, it, a, i => h.IsListIter it a i
  | .t, it, a, i => h.IsTupleIter it a i
def itObj : SK → Addr → Obj
  | .l, a => { cls := .type "list_iterator", data := .fields #[.ref a, .int 0 0] }
  | .t, a => { cls := .type "tuple_iterator", data := .fields #[.ref a, .int 0 0] }
section
variable {X : Cx} {pins : List (Addr × Obj)} {σ : L2.St} {H : Hp} {s : Shared} {a : Addr} {xs : List V}
theorem sq_is (I : Inv X pins σ H s) {k : SK} (h : Sq X.K H k a xs) : ∃ its : List Value, Vals xs its ∧ IsSq s.heap k a its.toArray ∧ xs.length ≤ sizeLine := by
  cases k with
  | l => obtain ⟨its, r, p, z⟩ := I.list h; exact ⟨its, r, p.isList, z⟩
  | t => obtain ⟨its, r, p, z⟩ := I.tuple h; exact ⟨its, r, p, z⟩
theorem sq_inj (I : Inv X pins σ H s) {k : SK} {ys : List V} (h : Sq X.K H k a xs) (h' : Sq X.K H k a ys) : xs = ys := by
  cases k with
  | l => exact I.list_inj h h'
  | t => exact I.tuple_inj h h'
theorem IsSq.lt {h : Heap} {k : SK} {its : Array Value} (x : IsSq h k a its) : a < h.objs.size := by
  cases k with
  | l => obtain ⟨o, e, _⟩ := x; exact Heap.lt_size e
  | t => obtain ⟨o, e, _⟩ := x; exact Heap.lt_size e
theorem IsIt.at_ {h h' : Heap} {k : SK} {it : Addr} {i : Nat} (x : IsIt h k it a i) (q : ∀ o, h.get? it = some o → h'.get? it = some o) : IsIt h' k it a i := by
  cases k with
  | l => exact Heap.IsListIter.at x q
  | t => exact Heap.IsTupleIter.at x q
theorem IsIt.obj {h : Heap} {k : SK} {it : Addr} {i : Nat} (x : IsIt h k it a i) : ∃ o, h.get? it = some o ∧ ∀ v, o.data ≠ .cell v := by
  cases k with
  | l => obtain ⟨o, e, _, d⟩ := x; exact ⟨o, e, fun v z => by rw [d] at z; cases z⟩
  | t => obtain ⟨o, e, _, d⟩ := x; exact ⟨o, e, fun v z => by rw [d] at z; cases z⟩
theorem isIt_new {h : Heap} {k : SK} {it : Addr} (e : h.get? it = some (itObj k a)) : IsIt h k it a 0 := by
  cases k with
  | l => exact ⟨_, e, rfl, rfl⟩
  | t => exact ⟨_, e, rfl, rfl⟩
theorem begins_k (k : SK) (a : Addr) (its : Array Value) : Begins (.ref a) (itObj k a) fun h => IsSq h k a its := by
  cases k with
  | l => exact begins_list a its
  | t => exact begins_tuple a its
theorem draws_k {prog : Program} {w : World} {A : Around} (hh : A.handled = none) (k : SK) (it a : Addr) (hne : a ≠ it) (its : Array Value) : Draws prog w A it [it, a] its.size (fun i v => its[i]? = some v) (fun i h => IsIt h k it a i ∧ IsSq h k a its) := by
  cases k with
  | l => exact Draws.list hh it a hne its
  | t => exact Draws.tuple hh it a hne its
end

/-- tuples made anew at each turn, of what stands there now -/
def ItP (P : Nat → (Nat → List V) → Hp → Prop) : It :=
  ⟨fun i H => ∃ n val, P n val H ∧ i < n, fun i H v H' => ∃ T us, v = .ref T ∧ H T = none ∧ H' = upd H T (.tup us) ∧ ∀ n val, P n val H → us = val i, fun i H => ∃ val, P i val H⟩
theorem turn_pairs {P : Program} {w : World} {K : PySem.W.Frag} {elts : List Expr} {kk : Nat} {tpos : Pos} {I0 : Addr} {own wr : List Addr} {Pv : Nat → (Nat → List V) → Hp → Prop} {Tn : Nat → Heap → Prop}
    (mem : I0 ∈ own) (hwr : ∀ b ∈ wr, b ∈ own) (hval : ∀ n val H i, Pv n val H → (val i).length ≤ 10)
    (inj : ∀ (X : Cx) pins σ H s n val n' val', X.K = K → Inv X pins σ H s → Pv n val H → Pv n' val' H → val = val')
    (obj : ∀ i h, Tn i h → ∀ b ∈ own, ∃ o, h.get? b = some o ∧ ∀ v, o.data ≠ .cell v)
    (keep : ∀ i h h', Tn i h → (∀ b ∈ own, ∀ o, h.get? b = some o → h'.get? b = some o) → Tn i h')
    (self : ∀ (A : Around) (i : Nat) (s : Shared) (Q : Value → Shared → Prop) (E : Value → Shared → Prop), Tn i s.heap → Q (.ref I0) s → wpAny (model P w) A (pyIter (.ref I0)) Q E s)
    (W : ∀ (X : Cx), X.prog = P → X.w = w → X.K = K → X.calm = true → ∀ (pins : List (Addr × Obj)) (σ : L2.St) (H : Hp) (s : Shared) (n : Nat) (val : Nat → List V) (i : Nat), Inv X pins σ H s → Tn i s.heap → Pv n val H → ∃ (Bh : Heap → Prop) (fp : List Addr), Bh s.heap ∧
      GoesN P w X.A (.Tuple elts kk tpos) I0 fp wr n (fun i h₀ v h => ∃ T us, v = .ref T ∧ h₀.objs.size ≤ T ∧ (i < n → Vals (val i) us) ∧ h.IsTuple T us.toArray) (fun i h => Tn i h ∧ Bh h)) :
    Turn P w K (.Tuple elts kk tpos) (ItP Pv) own I0 Tn where
  mem := mem
  obj := obj
  keep := keep
  item := by
    intro X hP hw hK hc i pins s σ H E I hf st hg
    obtain ⟨n, val, hp, hi⟩ := hg
    obtain ⟨Bh, fp, hB, G⟩ := W X hP hw hK hc pins σ H s n val i I st hp
    subst hP hw
    refine wpAny_mono (G.goes i s (fun v s2 => ∃ x H', Inv X pins σ H' s2 ∧ RelV x v ∧ (ItP Pv).yld i H x H' ∧ Tn (i + 1) s2.heap ∧ ∀ b ∈ own, H' b = none) E hi ⟨st, hB⟩ fun v h' tk hY st' hk _ => ?_) (fun r s1 ⟨u, e, q⟩ => ⟨u, e, q⟩) (fun _ _ z => z)
    obtain ⟨T, us, rfl, hT, rv, it⟩ := hY
    have hn : H T = none := I.hok.fresh hT
    have new : ObjOk X.prog X.w (upd H T (.tup (val i))) h' T (.tup (val i)) := ⟨Nat.le_trans (hval n val H i hp) (by rw [sizeLine_eq]; omega), us, rv hi, it⟩
    refine ⟨.ref T, _, I.turnedNew (ch := own) (fun b o hb e => hk b o (fun z => hb (hwr b z)) e) hf hT new, rfl, ⟨T, _, rfl, hn, rfl, fun n' val' hp' => by rw [inj X pins σ H s n val n' val' hK I hp hp']⟩, st'.1, fun b hb => ?_⟩
    obtain ⟨o, e, _⟩ := obj i s.heap st b hb
    rw [upd_ne (Nat.ne_of_lt (Nat.lt_of_lt_of_le (Heap.lt_size e) hT))]
    exact (hf b hb).1
  done := by
    intro X hP hw hK hc i pins s σ H E I hf st hg
    obtain ⟨val, hp⟩ := hg
    obtain ⟨Bh, fp, hB, G⟩ := W X hP hw hK hc pins σ H s i val i I st hp
    subst hP hw
    exact G.stops s (fun s1 => Inv X pins σ H s1) E ⟨st, hB⟩ fun h' tk hk _ => I.turnedL (ch := own) (fun b o hb e => hk b o (fun z => hb (hwr b z)) e) hf
  self := self
theorem GoesN.stIff {prog : Program} {w : World} {A : Around} {tg : Expr} {I : Addr} {fp wr : List Addr} {n : Nat} {Y : Nat → Heap → Value → Heap → Prop} {St St' : Nat → Heap → Prop} (e : ∀ i h, St i h ↔ St' i h) (W : GoesN prog w A tg I fp wr n Y St) : GoesN prog w A tg I fp wr n Y St' := by
  have : St = St' := funext fun i => funext fun h => propext (e i h)
  exact this ▸ W

/-! enumerate -/
theorem meets_enumerate_newB1 {v : Value} {o : Obj} {H : Heap → Prop} (B : Begins v o H) :
    Meets (Builtin.«enumerate.__new__» ⟨[.type "enumerate", v], []⟩) (fun _ R s => H s.heap ∧
      R (.ok (.ret (.ref (s.heap.push o).objs.size))) { s with heap := (s.heap.push o).push { cls := .type "enumerate", data := .fields #[.none, .bool false, .ref s.heap.objs.size, rawInt 0, .none, .none] } }) :=
  .of_wp fun prog w A R s h => by
    obtain ⟨hp, g, d, tk, os⟩ := s; obtain ⟨h1, h⟩ := h
    have hsub := sub_enumerate
    have q1 : ∀ {A' : Around} {E : Value → Shared → Prop} {Q : Value → Shared → Prop}, Q (.ref hp.objs.size) ⟨hp.push o, g, d, tk, os⟩ → wpAny (model prog w) A' (pyIter v) Q E ⟨hp, g, d, tk, os⟩ :=
      fun q => B.iter prog w _ _ ⟨hp, g, d, tk, os⟩ _ h1 q
    wp_walk using q1
    refine wpAny_stack_any fun st => wpAny_pure ?_
    split
    · rename_i c _ _ _ _ _
      cases (c == Value.type "enumerate")
      · wp_walk using q1
        exact ⟨_, rfl, h⟩
      · wp_walk using q1
        exact ⟨_, rfl, h⟩
    · wp_walk using q1
      exact ⟨_, rfl, h⟩
section
variable {prog : Program} {w : World} {A : Around} {E : Value → Shared → Prop} {s : Shared}
theorem enum_begins1 {v : Value} {o : Obj} {H : Heap → Prop} {Q : Value → Shared → Prop} (B : Begins v o H) (h1 : H s.heap)
    (h : ∀ h', IsEnum h' (s.heap.objs.size + 1) s.heap.objs.size 0 .none → h'.get? s.heap.objs.size = some o → h'.objs.size = s.heap.objs.size + 2 →
      (∀ b o, s.heap.get? b = some o → h'.get? b = some o) → Q (.ref (s.heap.objs.size + 1)) { s with heap := h' }) :
    wpAny (model prog w) A (call (.type "enumerate") [v]) Q E s := by
  refine callType_new F.called_enumerate (by decide) (F.typeCall_enumerate_1 _) (F.newCall_enumerate_1 _) (fun obj => F.args_object_init_2 obj _) F.entry_enumerate_new
    (meets_enumerate_newB1 B) ⟨h1, ?_⟩
  have hz : (s.heap.push o).objs.size = s.heap.objs.size + 1 := Heap.size_push ..
  show _ ∧ _
  rw [hz]
  have he : IsEnum ((s.heap.push o).push { cls := .type "enumerate", data := .fields #[.none, .bool false, .ref s.heap.objs.size, rawInt 0, .none, .none] }) (s.heap.objs.size + 1) s.heap.objs.size 0 .none := by
    have := Heap.get?_push_size (s.heap.push o) (o := { cls := .type "enumerate", data := .fields #[.none, .bool false, .ref s.heap.objs.size, rawInt 0, .none, .none] }) rfl
    rw [hz] at this; exact this
  refine ⟨⟨_, he, rfl⟩, h _ he (Heap.get?_push_of_some _ (Heap.get?_push_size _ B.free)) (by rw [Heap.size_push, hz]) fun b o x => Heap.get?_push_of_some _ (Heap.get?_push_of_some _ x)⟩
end
def PvE (K : PySem.W.Frag) (k : SK) (a : Addr) : Nat → (Nat → List V) → Hp → Prop := fun n val H => ∃ xs, Sq K H k a xs ∧ n = xs.length ∧ val = fun i => [.int ((i : Nat) : Int), (xs[i]?).getD .non]
theorem turn_enumK {P : Program} {w : World} {K : PySem.W.Frag} {elts : List Expr} {kk : Nat} {tpos : Pos} (k : SK) (a e it : Addr) (hne : e ≠ it) (hea : a ≠ e) (hia : a ≠ it) :
    Turn P w K (.Tuple elts kk tpos) (ItP (PvE K k a)) [e, it] e (fun i h => (∃ old, IsEnum h e it ((0 : Int) + (i : Int)) old) ∧ IsIt h k it a i) := by
  refine turn_pairs (wr := [e, it]) (by simp) (fun b h => h) (fun n val H i ⟨xs, _, _, e⟩ => by rw [e]; simp) ?_ ?_ ?_ ?_ ?_
  · rintro X pins σ H s n val n' val' rfl I ⟨xs, h1, rfl, rfl⟩ ⟨ys, h2, rfl, rfl⟩
    rw [sq_inj I h1 h2]
  · intro i h st b hb
    obtain ⟨⟨old, he⟩, hi⟩ := st
    rcases (by simpa using hb : b = e ∨ b = it) with z | z
    · rw [z]; exact ⟨_, he, fun v q => nomatch q⟩
    · rw [z]; exact hi.obj
  · exact fun i h h' st q => let ⟨⟨old, he⟩, hi⟩ := st; ⟨⟨old, q e (by simp) _ he⟩, hi.at_ fun o z => q it (by simp) o z⟩
  · exact fun A i s Q E st h => let ⟨⟨_, he⟩, _⟩ := st; wpAny_pyIter_enum he h
  · intro X hP hw hK hc pins σ H s n val i I st hp
    subst hP hw hK
    obtain ⟨xs, hq, rfl, rfl⟩ := hp
    obtain ⟨its, rv, p, hz⟩ := sq_is I hq
    have hh : X.A.in1.handled = none := I.ok.hd hc
    refine ⟨fun h => IsSq h k a its.toArray, e :: [it, a], p, GoesN.stIff (St := fun i h => (∃ old, IsEnum h e it ((0 : Int) + (i : Int)) old) ∧ IsIt h k it a i ∧ IsSq h k a its.toArray) (fun i h => by rw [and_assoc]) ?_⟩
    have D := draws_k (prog := X.prog) (w := X.w) hh k it a hia its.toArray
    have G := GoesN.enumFrom (elts := elts) (x1 := kk) (pos := tpos) 0 D e hne (by simp [hne, hea.symm]) (by simp)
    have hl : its.toArray.size = xs.length := by rw [List.size_toArray]; exact rv.length.symm
    rw [hl] at G
    refine G.mono fun i h₀ v h hi ⟨T, t, x, e1, hT, hx, it⟩ => ⟨T, [.int (0 + (i : Int)) t, x], e1, hT, fun _ => ?_, it⟩
    obtain ⟨u, hu, ru⟩ := rv.get (List.getElem?_eq_getElem hi)
    have : u = x := by
      have h2 : its.toArray[i]? = some u := by simpa using hu
      rw [hx] at h2; exact (Option.some.inj h2).symm
    subst this
    refine .cons ⟨t, by rw [Int.zero_add]⟩ (.cons ?_ .nil)
    rw [List.getElem?_eq_getElem hi]
    exact ru
def iEnumK (K : PySem.W.Frag) (ta : TA) : TI := fun σ H R => ta σ H fun vs H1 => ∃ k a xs, vs = [.ref a] ∧ Sq K H1 k a xs ∧ R (ItP (PvE K k a)) H1
theorem pi_enumK {X : Cx} {e : Expr} {ta : TA} {p pos tpos : Pos} {elts : List Expr} {kk : Nat} (hg : Gl X "enumerate") (hm : X.mg "enumerate" = none) (ha : PA X [e] ta) (hs : starEach [e] X.env = [(false, eval e X.env)] := by rfl) :
    PI X (.Tuple elts kk tpos) (.Call (.Name "enumerate" p) [e] [] pos) (iEnumK X.K ta) := by
  refine ⟨fun pins s σ H R I h => ?_⟩
  refine Call_ (ld_blt I hg hm boot_enumerate (PyProof.Rows.callWith_type1 (thn (ha.run pos pins s σ H _ I h) fun us s1 ⟨vs, H1, I1, r1, q1⟩ => ?_) hs rfl))
  obtain ⟨k, a, xs, ex, hq, q⟩ := q1
  subst ex
  cases r1 with
  | cons r rr =>
    cases rr
    cases r
    obtain ⟨its, rv, p', hz⟩ := sq_is I1 hq
    refine enum_begins1 (begins_k k a its.toArray) p' fun h' he hit hsz hk => wpAny_pyIter_enum he ?_
    have I2 : Inv X pins σ H1 { s1 with heap := h' } := I1.kept (t' := s1.toks) hk
    have la := p'.lt
    refine ⟨s1.heap.objs.size + 1, [s1.heap.objs.size + 1, s1.heap.objs.size], _, _, H1, rfl, I2, turn_enumK k a (s1.heap.objs.size + 1) s1.heap.objs.size (Nat.succ_ne_self _) (Nat.ne_of_lt (Nat.lt_succ_of_lt la)) (Nat.ne_of_lt la), ⟨⟨.none, he⟩, isIt_new hit⟩, fun b hb => ?_, q⟩
    have e' : b = s1.heap.objs.size + 1 ∨ b = s1.heap.objs.size := by simpa using hb
    have hle : s1.heap.objs.size ≤ b := by
      rcases e' with z | z
      · rw [z]; exact Nat.le_add_right _ _
      · rw [z]; exact Nat.le_refl _
    exact I1.fpOk hle (I1.hok.fresh hle)

/-! zip of two -/
def PvZ (K : PySem.W.Frag) (k1 k2 : SK) (a b : Addr) : Nat → (Nat → List V) → Hp → Prop := fun n val H => ∃ xs ys, Sq K H k1 a xs ∧ Sq K H k2 b ys ∧ n = min xs.length ys.length ∧ val = fun i => [(xs[i]?).getD .non, (ys[i]?).getD .non]
theorem turn_zipK {P : Program} {w : World} {K : PySem.W.Frag} {elts : List Expr} {kk : Nat} {tpos : Pos} (k1 k2 : SK) (a b N : Addr) (ha : a < N) (hb : b < N) :
    Turn P w K (.Tuple elts kk tpos) (ItP (PvZ K k1 k2 a b)) [N + 4, N + 2, N + 3, N, N + 1] (N + 4) (fun i h => IsZip h (N + 4) (N + 2) (N + 3) .none ∧ IsTupOf2 h (N + 2) (.ref N) (.ref (N + 1)) ∧ (∃ a1 a2, IsTupOf2 h (N + 3) a1 a2) ∧ IsIt h k1 N a i ∧ IsIt h k2 (N + 1) b i) := by
  refine turn_pairs (wr := [N + 4, N + 3, N, N + 1]) (by simp) (fun b h => ?_) (fun n val H i ⟨xs, ys, _, _, _, e⟩ => by rw [e]; simp) ?_ ?_ ?_ ?_ ?_
  · rcases (by simpa using h : b = N + 4 ∨ b = N + 3 ∨ b = N ∨ b = N + 1) with z | z | z | z <;> (rw [z]; simp)
  · rintro X pins σ H s n val n' val' rfl I ⟨xs, ys, h1, h2, rfl, rfl⟩ ⟨xs', ys', h3, h4, rfl, rfl⟩
    rw [sq_inj I h1 h3, sq_inj I h2 h4]
  · intro i h st c hc
    obtain ⟨hz, hTI, ⟨x, y, hTO⟩, h1, h2⟩ := st
    rcases (by simpa using hc : c = N + 4 ∨ c = N + 2 ∨ c = N + 3 ∨ c = N ∨ c = N + 1) with q | q | q | q | q
    · rw [q]; exact ⟨_, hz, fun v q => nomatch q⟩
    · rw [q]; exact ⟨_, hTI, fun v q => nomatch q⟩
    · rw [q]; exact ⟨_, hTO, fun v q => nomatch q⟩
    · rw [q]; exact h1.obj
    · rw [q]; exact h2.obj
  · intro i h h' st q
    obtain ⟨hz, hTI, ⟨x, y, hTO⟩, h1, h2⟩ := st
    exact ⟨q (N + 4) (by simp) _ hz, q (N + 2) (by simp) _ hTI, ⟨x, y, q (N + 3) (by simp) _ hTO⟩, h1.at_ fun o z => q N (by simp) o z, h2.at_ fun o z => q (N + 1) (by simp) o z⟩
  · exact fun A i s Q E st h => wpAny_pyIter_zip st.1 h
  · intro X hP hw hK hc pins σ H s n val i I st hp
    subst hP hw hK
    obtain ⟨xs, ys, hq1, hq2, rfl, rfl⟩ := hp
    obtain ⟨its1, rv1, p1, hz1⟩ := sq_is I hq1
    obtain ⟨its2, rv2, p2, hz2⟩ := sq_is I hq2
    have hh : X.A.in1.handled = none := I.ok.hd hc
    have n1 : a ≠ N := Nat.ne_of_lt ha
    have n2 : b ≠ N + 1 := Nat.ne_of_lt (Nat.lt_succ_of_lt hb)
    have D1 := draws_k (prog := X.prog) (w := X.w) hh k1 N a n1 its1.toArray
    have D2 := draws_k (prog := X.prog) (w := X.w) hh k2 (N + 1) b n2 its2.toArray
    refine ⟨fun h => IsSq h k1 a its1.toArray ∧ IsSq h k2 b its2.toArray, (N + 4) :: (N + 2) :: (N + 3) :: ([N, a] ++ [N + 1, b]), ⟨p1, p2⟩, GoesN.stIff (St := fun i h => IsZip h (N + 4) (N + 2) (N + 3) .none ∧ IsTupOf2 h (N + 2) (.ref N) (.ref (N + 1)) ∧ (∃ a1 a2, IsTupOf2 h (N + 3) a1 a2) ∧ (IsIt h k1 N a i ∧ IsSq h k1 a its1.toArray) ∧ (IsIt h k2 (N + 1) b i ∧ IsSq h k2 b its2.toArray)) (fun i h => ⟨fun ⟨x1, x2, x3, ⟨x4, x5⟩, x6, x7⟩ => ⟨⟨x1, x2, x3, x4, x6⟩, x5, x7⟩, fun ⟨⟨x1, x2, x3, x4, x6⟩, x5, x7⟩ => ⟨x1, x2, x3, ⟨x4, x5⟩, x6, x7⟩⟩) ?_⟩
    have G := GoesN.zip2 (elts := elts) (x1 := kk) (pos := tpos) (zip_sep2 (N := N) (fp1 := [a]) (fp2 := [b]) (fun c h => by rw [List.mem_singleton.mp h]; exact ha) (fun c h => by rw [List.mem_singleton.mp h]; exact hb)) D1 D2
    have hl1 : its1.toArray.size = xs.length := by rw [List.size_toArray]; exact rv1.length.symm
    have hl2 : its2.toArray.size = ys.length := by rw [List.size_toArray]; exact rv2.length.symm
    rw [hl1, hl2] at G
    refine G.mono fun i h₀ v h hi ⟨T, x, y, e1, hT, hx, hy, it⟩ => ⟨T, [x, y], e1, hT, fun _ => ?_, it⟩
    obtain ⟨u, hu, ru⟩ := rv1.get (List.getElem?_eq_getElem (Nat.lt_of_lt_of_le hi (Nat.min_le_left _ _)))
    obtain ⟨u2, hu2, ru2⟩ := rv2.get (List.getElem?_eq_getElem (Nat.lt_of_lt_of_le hi (Nat.min_le_right _ _)))
    have e1 : u = x := by
      have h2 : its1.toArray[i]? = some u := by simpa using hu
      rw [hx] at h2; exact (Option.some.inj h2).symm
    have e2 : u2 = y := by
      have h2 : its2.toArray[i]? = some u2 := by simpa using hu2
      rw [hy] at h2; exact (Option.some.inj h2).symm
    subst e1 e2
    show Vals [(xs[i]?).getD .non, (ys[i]?).getD .non] _
    rw [List.getElem?_eq_getElem (Nat.lt_of_lt_of_le hi (Nat.min_le_left _ _)), List.getElem?_eq_getElem (Nat.lt_of_lt_of_le hi (Nat.min_le_right _ _))]
    exact .cons ru (.cons ru2 .nil)
def iZipK (K : PySem.W.Frag) (ta : TA) : TI := fun σ H R => ta σ H fun vs H1 => ∃ k1 k2 a b xs ys, vs = [.ref a, .ref b] ∧ Sq K H1 k1 a xs ∧ Sq K H1 k2 b ys ∧ R (ItP (PvZ K k1 k2 a b)) H1
theorem pi_zipK {X : Cx} {e e2 : Expr} {ta : TA} {p pos tpos : Pos} {elts : List Expr} {kk : Nat} (hg : Gl X "zip") (hm : X.mg "zip" = none) (ha : PA X [e, e2] ta)
    (hs : starEach [e, e2] X.env = (false, eval e X.env) :: starEach [e2] X.env := by rfl) (hpl : (backTo pos (starEach [e2] X.env)).any (·.1) = false := by rfl) :
    PI X (.Tuple elts kk tpos) (.Call (.Name "zip" p) [e, e2] [] pos) (iZipK X.K ta) := by
  refine ⟨fun pins s σ H R I h => ?_⟩
  refine Call_ (ld_blt I hg hm PyProof.Rows.boot_zip (PyProof.Rows.callWith_type1 (thn (ha.run pos pins s σ H _ I h) fun us s1 ⟨vs, H1, I1, r1, q1⟩ => ?_) hs hpl))
  obtain ⟨k1, k2, a, b, xs, ys, ex, hq1, hq2, q⟩ := q1
  subst ex
  cases r1 with
  | cons r rr =>
    cases rr with
    | cons r' rr =>
      cases rr
      cases r
      cases r'
      obtain ⟨its, rv, p1, _⟩ := sq_is I1 hq1
      obtain ⟨its2, rv2, p2, _⟩ := sq_is I1 hq2
      refine zip_begins2 (begins_k k1 a its.toArray) (begins_k k2 b its2.toArray) p1 p2 fun h' hz hTI hTO g1 g2 hsz hk => wpAny_pyIter_zip hz ?_
      have I2 : Inv X pins σ H1 { s1 with heap := h' } := I1.kept (t' := s1.toks) hk
      refine ⟨s1.heap.objs.size + 4, [s1.heap.objs.size + 4, s1.heap.objs.size + 2, s1.heap.objs.size + 3, s1.heap.objs.size, s1.heap.objs.size + 1], _, _, H1, rfl, I2, turn_zipK k1 k2 a b s1.heap.objs.size p1.lt p2.lt, ⟨hz, hTI, ⟨_, _, hTO⟩, isIt_new g1, isIt_new g2⟩, fun c hcm => ?_, q⟩
      have e' : c = s1.heap.objs.size + 4 ∨ c = s1.heap.objs.size + 2 ∨ c = s1.heap.objs.size + 3 ∨ c = s1.heap.objs.size ∨ c = s1.heap.objs.size + 1 := by simpa using hcm
      have hle : s1.heap.objs.size ≤ c := by
        rcases e' with z | z | z | z | z
        · rw [z]; exact Nat.le_add_right _ _
        · rw [z]; exact Nat.le_add_right _ _
        · rw [z]; exact Nat.le_add_right _ _
        · rw [z]; exact Nat.le_refl _
        · rw [z]; exact Nat.le_add_right _ _
      exact I1.fpOk hle (I1.hok.fresh hle)

/-! ### .. over data -/
def itemsD : PyData → Option (List PyData)
  | .list ds => some ds
  | .tuple ds => some ds
  | _ => none
def kD : PyData → SK
  | .list _ => .l
  | _ => .t
section
variable {K : PySem.W.Frag} {B : Ba} {lv : List (Nat × V)} {st tm : List Vl} {σ : L2.St} {tv : List V} {H : Hp} {F : Addr → Prop} {O : Addr → Option Ow} {v v2 v3 : V} {d d2 d3 : Vl}
theorem RelX.seq {x : PyData} {ds : List PyData} (R : RelX K B lv st (d :: tm) σ (v :: tv) H F O) (e : pyO st d = some x) (i : itemsD x = some ds) : ∃ a vs, v = .ref a ∧ Sq K H (kD x) a vs ∧ RpA K F H vs ds := by
  cases x with
  | list xs => cases i; exact R.lst e
  | tuple xs => cases i; exact R.tup e
  | _ => cases i
def enumD (k : Nat) : List PyData → List PyData
  | [] => []
  | d :: ds => .tuple [.int (k : Int), d] :: enumD (k + 1) ds
theorem enumD_len : ∀ (ds : List PyData) (k : Nat), (enumD k ds).length = ds.length
  | [], _ => rfl
  | _ :: ds, k => congrArg (· + 1) (enumD_len ds (k + 1))
theorem enumD_at : ∀ (ds : List PyData) (k i : Nat), (enumD k ds)[i]? = (ds[i]?).map fun d => .tuple [.int ((k + i : Nat) : Int), d]
  | [], _, i => by simp [enumD]
  | d :: ds, k, 0 => by simp [enumD]
  | d :: ds, k, i + 1 => by
    rw [enumD, List.getElem?_cons_succ, List.getElem?_cons_succ, enumD_at ds (k + 1) i]
    congr 1
    funext x
    rw [show k + 1 + i = k + (i + 1) by omega]
def zip2D (as bs : List PyData) : List PyData := List.zipWith (fun a b => .tuple [a, b]) as bs
theorem wk_enum {a : Addr} {x : PyData} {ds : List PyData} (hi : itemsD x = some ds) : Wk K B (ItP (PvE K (kD x) a)) (enumD 0 ds) [d] [.ref a] (fun st => pyO st d = some x) where
  go := fun lv st tm σ tv H i y hc R e => by
    obtain ⟨F, O, R⟩ := R
    obtain ⟨a', vs, e1, h1, r⟩ := R.seq hc hi
    cases e1
    rw [enumD_at] at e
    obtain ⟨z, hz, rfl⟩ := Option.map_eq_some_iff.mp e
    obtain ⟨w, hw, rw'⟩ := r.get hz
    have hl : i < vs.length := by
      by_cases h : i < vs.length
      · exact h
      · rw [List.getElem?_eq_none (Nat.not_lt.mp h)] at hw; cases hw
    refine ⟨⟨_, _, ⟨vs, h1, rfl, rfl⟩, hl⟩, fun y H' q => ?_⟩
    obtain ⟨T, us, rfl, hn, rfl, q⟩ := q
    have hu := q _ _ ⟨vs, h1, rfl, rfl⟩
    rw [hu, Nat.zero_add]
    refine ⟨F, O, R.newTup hn (.cons (.int _) (.cons ?_ .nil))⟩
    rw [hw]
    exact rw'
  stop := fun lv st tm σ tv H hc R => by
    obtain ⟨F, O, R⟩ := R
    obtain ⟨a', vs, e1, h1, r⟩ := R.seq hc hi
    cases e1
    exact ⟨_, vs, h1, by rw [enumD_len, r.length], rfl⟩
theorem wk_zip {a b : Addr} {x y : PyData} {ds es : List PyData} (hi : itemsD x = some ds) (hj : itemsD y = some es) : Wk K B (ItP (PvZ K (kD x) (kD y) a b)) (zip2D ds es) [d2, d] [.ref b, .ref a] (fun st => pyO st d = some x ∧ pyO st d2 = some y) where
  go := fun lv st tm σ tv H i y hc R e => by
    obtain ⟨F, O, R⟩ := R
    obtain ⟨a', vs, e1, h1, r1⟩ := R.pop.seq hc.1 hi
    cases e1
    obtain ⟨b', ws, e2, h2, r2⟩ := R.seq hc.2 hj
    cases e2
    rw [zip2D, List.getElem?_zipWith] at e
    cases e1 : ds[i]? with
    | none => rw [e1] at e; cases e
    | some z1 =>
      cases e2 : es[i]? with
      | none => rw [e1, e2] at e; cases e
      | some z2 =>
        rw [e1, e2] at e
        cases e
        obtain ⟨w1, hw1, q1⟩ := r1.get e1
        obtain ⟨w2, hw2, q2⟩ := r2.get e2
        have l1 : i < vs.length := by
          by_cases h : i < vs.length
          · exact h
          · rw [List.getElem?_eq_none (Nat.not_lt.mp h)] at hw1; cases hw1
        have l2 : i < ws.length := by
          by_cases h : i < ws.length
          · exact h
          · rw [List.getElem?_eq_none (Nat.not_lt.mp h)] at hw2; cases hw2
        refine ⟨⟨_, _, ⟨vs, ws, h1, h2, rfl, rfl⟩, Nat.lt_min.mpr ⟨l1, l2⟩⟩, fun y H' q => ?_⟩
        obtain ⟨T, us, rfl, hn, rfl, q⟩ := q
        rw [q _ _ ⟨vs, ws, h1, h2, rfl, rfl⟩]
        refine ⟨F, O, R.newTup hn (.cons ?_ (.cons ?_ .nil))⟩
        · rw [hw1]; exact q1
        · rw [hw2]; exact q2
  stop := fun lv st tm σ tv H hc R => by
    obtain ⟨F, O, R⟩ := R
    obtain ⟨a', vs, e1, h1, r1⟩ := R.pop.seq hc.1 hi
    cases e1
    obtain ⟨b', ws, e2, h2, r2⟩ := R.seq hc.2 hj
    cases e2
    refine ⟨_, vs, ws, h1, h2, ?_, rfl⟩
    rw [zip2D, List.length_zipWith, r1.length, r2.length]
end
def cEnum (ta : DTA) : DTI := fun st Q => ta st fun ds st' => match ds with
  | [d] => (match pyO st' d with
    | some x => (match itemsD x with
      | some xs => Q (enumD 0 xs) [d] (fun st => pyO st d = some x) st'
      | _ => False)
    | _ => False)
  | _ => False
def cZip2 (ta : DTA) : DTI := fun st Q => ta st fun ds st' => match ds with
  | [d, d2] => (match pyO st' d, pyO st' d2 with
    | some x, some y => (match itemsD x, itemsD y with
      | some xs, some ys => Q (zip2D xs ys) [d2, d] (fun st => pyO st d = some x ∧ pyO st d2 = some y) st'
      | _, _ => False)
    | _, _ => False)
  | _ => False
section
variable {X : Cx} {B : Ba} {lk : List Nat} {elts : List Expr} {kk : Nat} {tpos : Pos}
theorem di_enum {e : Expr} {ta : DTA} {p pos : Pos} (hg : Gl X "enumerate") (hm : X.mg "enumerate" = none) (ha : DA X B lk [e] ta) (hs : starEach [e] X.env = [(false, eval e X.env)] := by rfl) : DI X B lk (.Tuple elts kk tpos) (.Call (.Name "enumerate" p) [e] [] pos) (cEnum ta) :=
  PI.weak (pi_enumK hg hm ha hs) fun σ H R ⟨lv, st, tm, tv, Q0, L, Rl, h, k⟩ => by
    refine ⟨lv, st, tm, tv, _, L, Rl, h, fun ds st' vs H' q hl R' => ?_⟩
    split at q
    · rename_i d
      match vs, hl with
      | [v], _ =>
        have R2 : Rel X.K B lv st' (d :: tm) σ (v :: tv) H' := R'
        split at q
        · rename_i x e1
          split at q
          · rename_i xs e2
            obtain ⟨F, O, R3⟩ := R2
            obtain ⟨a, ws, rfl, h1, r⟩ := R3.seq e1 e2
            exact ⟨_, a, ws, rfl, h1, k _ [d] _ st' [.ref a] _ _ q (wk_enum e2) rfl ⟨F, O, R3⟩⟩
          · exact q.elim
        · exact q.elim
    · exact q.elim
theorem di_zip2 {e e2 : Expr} {ta : DTA} {p pos : Pos} (hg : Gl X "zip") (hm : X.mg "zip" = none) (ha : DA X B lk [e, e2] ta) (hs : starEach [e, e2] X.env = (false, eval e X.env) :: starEach [e2] X.env := by rfl) (hpl : (backTo pos (starEach [e2] X.env)).any (·.1) = false := by rfl) :
    DI X B lk (.Tuple elts kk tpos) (.Call (.Name "zip" p) [e, e2] [] pos) (cZip2 ta) :=
  PI.weak (pi_zipK hg hm ha hs hpl) fun σ H R ⟨lv, st, tm, tv, Q0, L, Rl, h, k⟩ => by
    refine ⟨lv, st, tm, tv, _, L, Rl, h, fun ds st' vs H' q hl R' => ?_⟩
    split at q
    · rename_i d d2
      match vs, hl with
      | [v, v2], _ =>
        have R2 : Rel X.K B lv st' (d2 :: d :: tm) σ (v2 :: v :: tv) H' := R'
        split at q
        · rename_i x y e1 e3
          split at q
          · rename_i xs ys e2 e4
            obtain ⟨F, O, R3⟩ := R2
            obtain ⟨b, us, rfl, h2, r2⟩ := R3.seq e3 e4
            obtain ⟨a, ws, rfl, h1, r⟩ := R3.pop.seq e1 e2
            exact ⟨_, _, a, b, ws, us, rfl, h1, h2, k _ [d2, d] _ st' [.ref b, .ref a] _ _ q (wk_zip e2 e4) rfl ⟨F, O, R3⟩⟩
          · exact q.elim
        · exact q.elim
    · exact q.elim
end
end DL

/-! The data layer, part 8: built-in functions, slices, list methods, x[i] = e. -/
namespace DL
open PySem PySem.Spec PyProof.Rows L2

/-! ### a built-in function -/
abbrev GF := List Vl → List Vl → (Vl → Prop) → Prop
def FOk (K : PySem.W.Frag) (B : Ba) (g : GF) (r : List V → Hp → VK → Prop) : Prop := ∀ lv st tm σ tv H ds vs Q0 (Q : VK), vs.length = ds.length → Rel K B lv st (ds.reverse ++ tm) σ (vs.reverse ++ tv) H → g st ds Q0 →
  (∀ d w H', Q0 d → Rel K B lv st (d :: tm) σ (w :: tv) H' → Q w H') → r vs H Q
def cFn (g : GF) (ta : DTA) : DT := fun st Q => ta st fun ds st' => g st' ds fun d => Q d st'
section
variable {X : Cx} {B : Ba} {lk : List Nat} {e : Expr} {es : List Expr} {t : DTA} {p pos : Pos} {x : Str} {id T : String} {g : GF} {r : List V → Hp → VK → Prop}
theorem fn_weak {K : PySem.W.Frag} (ok : FOk K B g r) {σ : L2.St} {H : Hp} {Q : VK} (h : LE K B lk (cFn g t) σ H Q) : tCB r (LA K B lk t) σ H Q := by
  obtain ⟨lv, st, tm, tv, Q0, L, R, h, k⟩ := h
  exact ⟨lv, st, tm, tv, _, L, R, h, fun ds st' vs H' q hl R' => ok _ _ _ _ _ _ _ _ _ _ hl R' q fun d w H2 q2 R2 => k _ _ _ _ q2 R2⟩
theorem de_fnB (hc : CallR X (.builtin id) r) (ok : FOk X.K B g r) (hg : Gl X x) (hm : X.mg x = none) (hv : bootBuiltins x = some (.builtin id)) (ha : DA X B lk (e :: es) t) (hn : x ≠ "__name__" := by decide) (hdb : (x == ("__debug__" : Str)) = false := by decide)
    (he : starEach (e :: es) X.env = (false, eval e X.env) :: starEach es X.env := by rfl) (hpl : (backTo pos (starEach es X.env)).any (·.1) = false := by rfl) : DE X B lk (.Call (.Name x p) (e :: es) [] pos) (cFn g t) :=
  PE.weak (pe_callB hc hg hm hv ha hn hdb he hpl) fun _ _ _ h => fn_weak ok h
theorem de_fnT (hc : CallR X (.type T) r) (ok : FOk X.K B g r) (hg : Gl X x) (hm : X.mg x = none) (hv : bootBuiltins x = some (.type T)) (ha : DA X B lk (e :: es) t) (hn : x ≠ "__name__" := by decide) (hdb : (x == ("__debug__" : Str)) = false := by decide)
    (he : starEach (e :: es) X.env = (false, eval e X.env) :: starEach es X.env := by rfl) (hpl : (backTo pos (starEach es X.env)).any (·.1) = false := by rfl) : DE X B lk (.Call (.Name x p) (e :: es) [] pos) (cFn g t) :=
  PE.weak (pe_callTy hc hg hm hv ha hn hdb he hpl) fun _ _ _ h => fn_weak ok h
/-- one argument -/
def F1Ok (K : PySem.W.Frag) (B : Ba) (g : List Vl → Vl → (Vl → Prop) → Prop) (r : List V → Hp → VK → Prop) : Prop := ∀ lv st tm σ tv H d v Q0 (Q : VK) F O, RelX K B lv st (d :: tm) σ (v :: tv) H F O → g st d Q0 →
  (∀ d w H', Q0 d → Rel K B lv st (d :: tm) σ (w :: tv) H' → Q w H') → r [v] H Q
def g1 (g : List Vl → Vl → (Vl → Prop) → Prop) : GF := fun st ds Q => match ds with
  | [d] => g st d Q
  | _ => False
theorem F1Ok.ok {K : PySem.W.Frag} {g : List Vl → Vl → (Vl → Prop) → Prop} {r : List V → Hp → VK → Prop} (h : F1Ok K B g r) : FOk K B (g1 g) r := fun lv st tm σ tv H ds vs Q0 Q hl R q k => by
  unfold g1 at q
  split at q
  · match vs, hl with
    | [v], _ =>
      have R' : Rel K B lv st (_ :: tm) σ (v :: tv) H := R
      obtain ⟨F, O, R'⟩ := R'
      exact h _ _ _ _ _ _ _ _ _ _ F O R' q k
  · exact q.elim
/-- two ints -/
def g2I (f : Int → Int → Int) : GF := fun st ds Q => match ds with
  | [.fr (.int i), .fr (.int j)] => Q (.fr (.int (f i j)))
  | _ => False
theorem g2I_ok {K : PySem.W.Frag} {f g : Int → Int → Int} (e : ∀ i j, g i j = f i j) : FOk K B (g2I f) (fun xs H Q => ∃ i j, xs = [.int i, .int j] ∧ Q (.int (g i j)) H) := fun lv st tm σ tv H ds vs Q0 Q hl R q k => by
  unfold g2I at q
  split at q
  · match vs, hl with
    | [v, w], _ =>
      have R' : Rel K B lv st (.fr (.int _) :: .fr (.int _) :: tm) σ (w :: v :: tv) H := R
      obtain rfl := R'.isInt
      obtain rfl := R'.pop.isInt
      exact ⟨_, _, rfl, by rw [e]; exact k _ _ _ q (R'.pop.pop.int _)⟩
  · exact q.elim

/-! len, abs, max, min of two, sum, any, all -/
def gLen : List Vl → Vl → (Vl → Prop) → Prop := fun st d Q => match pyO st d with
  | some (.list xs) => Q (.fr (.int xs.length))
  | some (.tuple xs) => Q (.fr (.int xs.length))
  | some (.str x) => x.length ≤ sizeLine ∧ Q (.fr (.int x.length))
  | _ => False
theorem gLen_ok {K : PySem.W.Frag} : F1Ok K B gLen (fun xs H Q => ∃ x n, xs = [x] ∧ LenV K x H n ∧ Q (.int n) H) := fun lv st tm σ tv H d v Q0 Q F O R q k => by
  unfold gLen at q
  split at q
  · rename_i xs e
    obtain ⟨a, vs, rfl, h, r⟩ := R.lst e
    exact ⟨_, _, rfl, .inl ⟨vs, h, rfl⟩, by rw [r.length]; exact k _ _ _ q ⟨F, O, R.pop.push (d := .fr (.int _)) (.int _)⟩⟩
  · rename_i xs e
    obtain ⟨a, vs, rfl, h, r⟩ := R.tup e
    exact ⟨_, _, rfl, .inr ⟨vs, h, rfl⟩, by rw [r.length]; exact k _ _ _ q ⟨F, O, R.pop.push (d := .fr (.int _)) (.int _)⟩⟩
  · rename_i x e
    obtain rfl := (R.scal e).2.2.2 x rfl
    exact ⟨_, _, rfl, ⟨q.1, rfl⟩, k _ _ _ q.2 ⟨F, O, R.pop.push (d := .fr (.int _)) (.int _)⟩⟩
  · exact q.elim
theorem de_len (hg : Gl X "len") (hm : X.mg "len" = none) (ha : DA X B lk (e :: es) t) (he : starEach (e :: es) X.env = (false, eval e X.env) :: starEach es X.env := by rfl) (hpl : (backTo pos (starEach es X.env)).any (·.1) = false := by rfl) :
    DE X B lk (.Call (.Name "len" p) (e :: es) [] pos) (cFn (g1 gLen) t) := de_fnB call_len gLen_ok.ok hg hm boot_len ha (he := he) (hpl := hpl)
def gAbs : List Vl → Vl → (Vl → Prop) → Prop := fun st d Q => match d with
  | .fr (.int i) => Q (.fr (.int (i.natAbs : Nat)))
  | _ => False
theorem gAbs_ok {K : PySem.W.Frag} : F1Ok K B gAbs (fun xs H Q => ∃ i, xs = [.int i] ∧ Q (.int (if i < 0 then -i else i)) H) := fun lv st tm σ tv H d v Q0 Q F O R q k => by
  unfold gAbs at q
  split at q
  · rename_i i
    obtain rfl := (R.scal (x := .int i) rfl).2.2.1 i rfl
    have e : (if i < 0 then -i else i) = (i.natAbs : Nat) := by split <;> omega
    exact ⟨_, rfl, by rw [e]; exact k _ _ _ q ⟨F, O, R.pop.push (d := .fr (.int _)) (.int _)⟩⟩
  · exact q.elim
theorem de_abs (hg : Gl X "abs") (hm : X.mg "abs" = none) (ha : DA X B lk (e :: es) t) (he : starEach (e :: es) X.env = (false, eval e X.env) :: starEach es X.env := by rfl) (hpl : (backTo pos (starEach es X.env)).any (·.1) = false := by rfl) :
    DE X B lk (.Call (.Name "abs" p) (e :: es) [] pos) (cFn (g1 gAbs) t) := de_fnB call_abs gAbs_ok.ok hg hm boot_abs ha (he := he) (hpl := hpl)
theorem de_max2 (hc : X.calm = true) (hg : Gl X "max") (hm : X.mg "max" = none) (ha : DA X B lk (e :: es) t) (he : starEach (e :: es) X.env = (false, eval e X.env) :: starEach es X.env := by rfl) (hpl : (backTo pos (starEach es X.env)).any (·.1) = false := by rfl) :
    DE X B lk (.Call (.Name "max" p) (e :: es) [] pos) (cFn (g2I fun i j => max i j) t) := de_fnB (call_max2 hc) (g2I_ok fun i j => by split <;> omega) hg hm boot_max ha (he := he) (hpl := hpl)
theorem de_min2 (hc : X.calm = true) (hg : Gl X "min") (hm : X.mg "min" = none) (ha : DA X B lk (e :: es) t) (he : starEach (e :: es) X.env = (false, eval e X.env) :: starEach es X.env := by rfl) (hpl : (backTo pos (starEach es X.env)).any (·.1) = false := by rfl) :
    DE X B lk (.Call (.Name "min" p) (e :: es) [] pos) (cFn (g2I fun i j => min i j) t) := de_fnB (call_min2 hc) (g2I_ok fun i j => by split <;> omega) hg hm boot_min ha (he := he) (hpl := hpl)
def gBools (f : List Bool → Bool) : List Vl → Vl → (Vl → Prop) → Prop := fun st d Q => ∃ bs : List Bool, pyO st d = some (.list (bs.map .bool)) ∧ Q (.fr (.bool (f bs)))
theorem gBools_ok {K : PySem.W.Frag} {f : List Bool → Bool} : F1Ok K B (gBools f) (fun vs H Q => ∃ (a : Addr) (bs : List Bool), vs = [V.ref a] ∧ SqL K H a (bs.map V.bl) ∧ Q (.bl (f bs)) H) := fun lv st tm σ tv H d v Q0 Q F O R q k => by
  obtain ⟨ns, e, q⟩ := q
  obtain ⟨a, vs, rfl, h, r⟩ := R.lst e
  obtain rfl := r.bools
  exact ⟨a, ns, rfl, h, k _ _ _ q ⟨F, O, R.pop.push (d := .fr (.bool _)) (.bl _)⟩⟩
theorem de_any (hc : X.calm = true) (hg : Gl X "any") (hm : X.mg "any" = none) (ha : DA X B lk (e :: es) t) (he : starEach (e :: es) X.env = (false, eval e X.env) :: starEach es X.env := by rfl) (hpl : (backTo pos (starEach es X.env)).any (·.1) = false := by rfl) :
    DE X B lk (.Call (.Name "any" p) (e :: es) [] pos) (cFn (g1 (gBools fun bs => bs.any _root_.id)) t) := de_fnB (cr_any hc) gBools_ok.ok hg hm (by decide +kernel) ha (he := he) (hpl := hpl)
theorem de_all (hc : X.calm = true) (hg : Gl X "all") (hm : X.mg "all" = none) (ha : DA X B lk (e :: es) t) (he : starEach (e :: es) X.env = (false, eval e X.env) :: starEach es X.env := by rfl) (hpl : (backTo pos (starEach es X.env)).any (·.1) = false := by rfl) :
    DE X B lk (.Call (.Name "all" p) (e :: es) [] pos) (cFn (g1 (gBools fun bs => bs.all _root_.id)) t) := de_fnB (cr_all hc) gBools_ok.ok hg hm (by decide +kernel) ha (he := he) (hpl := hpl)

/-! list, tuple -/
def gLst : List Vl → Vl → (Vl → Prop) → Prop := fun st d Q => match pyO st d with
  | some (.list xs) => Q (.ow xs)
  | some (.tuple xs) => Q (.ow xs)
  | _ => False
theorem gLst_ok {K : PySem.W.Frag} : F1Ok K B gLst (fun xs H Q => ∃ p ys, xs = [.ref p] ∧ (SqL K H p ys ∨ SqT K H p ys) ∧ ∀ l, H l = none → Q (.ref l) (upd H l (.lst ys))) := fun lv st tm σ tv H d v Q0 Q F O R q k => by
  unfold gLst at q
  split at q
  · rename_i xs e
    obtain ⟨a, vs, rfl, h, r⟩ := R.lst e
    exact ⟨_, _, rfl, .inl h, fun l hl => k _ _ _ q ⟨F, _, R.pop.newLst hl r⟩⟩
  · rename_i xs e
    obtain ⟨a, vs, rfl, h, r⟩ := R.tup e
    exact ⟨_, _, rfl, .inr h, fun l hl => k _ _ _ q ⟨F, _, R.pop.newLst hl r⟩⟩
  · exact q.elim
theorem de_list (hg : Gl X "list") (hm : X.mg "list" = none) (ha : DA X B lk (e :: es) t) (he : starEach (e :: es) X.env = (false, eval e X.env) :: starEach es X.env := by rfl) (hpl : (backTo pos (starEach es X.env)).any (·.1) = false := by rfl) :
    DE X B lk (.Call (.Name "list" p) (e :: es) [] pos) (cFn (g1 gLst) t) := de_fnT call_list_of gLst_ok.ok hg hm boot_list ha (he := he) (hpl := hpl)
def gTpl : List Vl → Vl → (Vl → Prop) → Prop := fun st d Q => match pyO st d with
  | some (.list xs) => Q (.fr (.tuple xs))
  | some (.tuple xs) => Q (.fr (.tuple xs))
  | _ => False
theorem gTpl_ok {K : PySem.W.Frag} : F1Ok K B gTpl (fun xs H Q => ∃ p ys, xs = [.ref p] ∧ ((SqL K H p ys ∧ ∀ l, H l = none → Q (.ref l) (upd H l (.tup ys))) ∨ (SqT K H p ys ∧ Q (.ref p) H))) := fun lv st tm σ tv H d v Q0 Q F O R q k => by
  unfold gTpl at q
  split at q
  · rename_i xs e
    obtain ⟨a, vs, rfl, h, r⟩ := R.lst e
    exact ⟨_, _, rfl, .inl ⟨h, fun l hl => k _ _ _ q ⟨F, _, R.pop.newTup hl r⟩⟩⟩
  · rename_i xs e
    obtain ⟨a, vs, rfl, h, r⟩ := R.tup e
    exact ⟨_, _, rfl, .inr ⟨h, k _ _ _ q ⟨F, O, R.pop.push (d := .fr _) (.tup h r)⟩⟩⟩
  · exact q.elim
theorem de_tuple (hg : Gl X "tuple") (hm : X.mg "tuple" = none) (ha : DA X B lk (e :: es) t) (he : starEach (e :: es) X.env = (false, eval e X.env) :: starEach es X.env := by rfl) (hpl : (backTo pos (starEach es X.env)).any (·.1) = false := by rfl) :
    DE X B lk (.Call (.Name "tuple" p) (e :: es) [] pos) (cFn (g1 gTpl) t) := de_fnT call_tuple_of gTpl_ok.ok hg hm boot_tuple ha (he := he) (hpl := hpl)

/-! sorted -/
theorem eachIs_pairs {K : PySem.W.Frag} {F : Addr → Prop} {H : Hp} : ∀ {vs : List V} {ds : List PyData} {us : List Value}, RpA K F H vs ds → Vals vs us → PySem.W.EachIs (fun u (b : V × PyData) => RelV b.1 u ∧ Rp K F H b.1 b.2) us (vs.zip ds)
  | _, _, _, .nil, .nil => .nil
  | _, _, _, .cons r q, .cons s t => .cons ⟨s, r⟩ (eachIs_pairs q t)
theorem eachIs_un {R : Value → V × PyData → Prop} {K : PySem.W.Frag} {F : Addr → Prop} {H : Hp} (h : ∀ u b, R u b → RelV b.1 u ∧ Rp K F H b.1 b.2) : ∀ {us : List Value} {bs : List (V × PyData)}, PySem.W.EachIs R us bs → Vals (bs.map (·.1)) us ∧ RpA K F H (bs.map (·.1)) (bs.map (·.2))
  | _, _, .nil => ⟨.nil, .nil⟩
  | _, _, .cons q t => ⟨.cons (h _ _ q).1 (eachIs_un h t).1, .cons (h _ _ q).2 (eachIs_un h t).2⟩
def rSortD (K : PySem.W.Frag) : List V → Hp → VK → Prop := fun vs H Q => ∃ (a : Addr) (xs : List V) (F : Addr → Prop) (ds : List PyData), vs = [V.ref a] ∧ SqL K H a xs ∧ RpA K F H xs ds ∧ PySem.W.AllAlike ds ∧ PySem.W.Sortable ds ∧ ds.all (dep 60) = true ∧
  ∀ ys p, RpA K F H ys (ds.mergeSort (PySem.W.dataLe false _root_.id)) → H p = none → Q (.ref p) (upd H p (.lst ys))
theorem map_zip_snd {α β : Type} : ∀ {xs : List α} {ys : List β}, xs.length = ys.length → (xs.zip ys).map (·.2) = ys
  | [], [], _ => rfl
  | _ :: _, _ :: _, h => by rw [List.zip_cons_cons, List.map_cons, map_zip_snd (Nat.succ.inj h)]
  | [], _ :: _, h => by cases h
  | _ :: _, [], h => by cases h
theorem cr_sortD (hu : Un0 X) : CallR X (.builtin "sorted") (rSortD X.K) := by
  intro pins s σ H vs us Q I r h
  obtain ⟨a, xs, F, ds, rfl, hs, ra, hal, hso, hd, q⟩ := h
  obtain ⟨its, rv, hl, hz⟩ := I.list hs
  rw [Vals.ref1 r]
  have hlen := ra.length
  have e := eachIs_pairs ra rv
  have em : (xs.zip ds).map (fun b : V × PyData => b.2) = ds := map_zip_snd hlen
  have er : PySem.W.EachIs (fun u (b : V × PyData) => ∃ as, Reads s.heap u b.2 as) its (xs.zip ds) := (PySem.W.each_mem e).mono fun u b ⟨⟨z1, z2⟩, hb⟩ => Dq.reads I b.2 b.1 u (dep_nd 60 _ (List.all_eq_true.mp hd _ (List.of_mem_zip hb).2)) z2.dp z1
  refine PySem.W.sorted_data (enc := fun b : V × PyData => b.2) hl.isList e er (by rw [em]; exact hal) (by rw [em]; exact hso) (by rw [List.length_zip, ← hlen, Nat.min_self]; exact hz) (fun b hb => ?_) fun out ho eo => ?_
  · have hm : b.2 ∈ ds := by rw [← em]; exact List.mem_map.mpr ⟨b, hb, rfl⟩
    have := (dep_ok 60 b.2 (List.all_eq_true.mp hd _ hm)).2
    have hu' : X.A.units + 100 < cLine := hu
    omega
  · obtain ⟨ov, or⟩ := eachIs_un (fun _ _ z => z) eo
    have es : ((xs.zip ds).mergeSort (PySem.W.dataLe false fun b : V × PyData => b.2)).map (fun b : V × PyData => b.2) = ds.mergeSort (PySem.W.dataLe false _root_.id) := by
      have := List.map_mergeSort (r := PySem.W.dataLe false fun b : V × PyData => b.2) (s := PySem.W.dataLe false _root_.id) (f := fun b : V × PyData => b.2) (l := xs.zip ds) (fun _ _ _ _ => rfl)
      rw [this, em]
    rw [es] at or
    obtain ⟨ep, he'⟩ := PyProof.Rows.sortedAll_at s.heap its out.toArray
    have lo : (((xs.zip ds).mergeSort (PySem.W.dataLe false fun b : V × PyData => b.2)).map (fun b : V × PyData => b.1)).length ≤ sizeLine := by
      rw [List.length_map, List.length_mergeSort, List.length_zip, ← hlen, Nat.min_self]; exact hz
    exact ⟨.ref _, _, I.laid (t' := s.toks) (o := .lst _) (fun _ _ => PyProof.Rows.sortedAll_old) (Nat.le_succ _) ⟨lo, out, ep, ov, by simpa using he'⟩, rfl, q _ _ or (I.hok.fresh (Nat.le_succ _))⟩
def gSrt : List Vl → Vl → (Vl → Prop) → Prop := fun st d Q => match pyO st d with
  | some (.list ds) => PySem.W.AllAlike ds ∧ PySem.W.Sortable ds ∧ ds.all (dep 60) = true ∧ Q (.ow (ds.mergeSort (PySem.W.dataLe false _root_.id)))
  | _ => False
theorem gSrt_ok {K : PySem.W.Frag} : F1Ok K B gSrt (rSortD K) := fun lv st tm σ tv H d v Q0 Q F O R q k => by
  unfold gSrt at q
  split at q
  · rename_i ds e
    obtain ⟨a, vs, rfl, h, r⟩ := R.lst e
    exact ⟨a, vs, F, ds, rfl, h, r, q.1, q.2.1, q.2.2.1, fun ys p r' hp => k _ _ _ q.2.2.2 ⟨F, _, R.pop.newLst hp r'⟩⟩
  · exact q.elim
theorem de_sorted (hu : Un0 X) (hg : Gl X "sorted") (hm : X.mg "sorted" = none) (ha : DA X B lk (e :: es) t) (he : starEach (e :: es) X.env = (false, eval e X.env) :: starEach es X.env := by rfl) (hpl : (backTo pos (starEach es X.env)).any (·.1) = false := by rfl) :
    DE X B lk (.Call (.Name "sorted" p) (e :: es) [] pos) (cFn (g1 gSrt) t) := de_fnB (cr_sortD hu) gSrt_ok.ok hg hm boot_sorted ha (he := he) (hpl := hpl)

/-! repr -/
mutual
theorem plain_noDict : ∀ d : PyData, d.plain = true → d.hasDict = false
  | .none, _ => by simp [PyData.hasDict]
  | .bool _, _ => by simp [PyData.hasDict]
  | .int _, _ => by simp [PyData.hasDict]
  | .str _, _ => by simp [PyData.hasDict]
  | .list xs, h => by
    rw [PyData.hasDict]
    exact plain_noDictAll xs (by simpa [PyData.plain] using h)
  | .tuple xs, h => by
    rw [PyData.hasDict]
    exact plain_noDictAll xs (by simpa [PyData.plain] using h)
  | .dict _, h => by simp [PyData.plain] at h
theorem plain_noDictAll : ∀ ds : List PyData, PyData.plainAll ds = true → PyData.hasDictAll ds = false
  | [], _ => by simp [PyData.hasDictAll]
  | d :: ds, h => by
    rw [PyData.plainAll, Bool.and_eq_true] at h
    rw [PyData.hasDictAll, plain_noDict d h.1, plain_noDictAll ds h.2]
    rfl
end
end

/-! ### slices -/
abbrev DTO := List Vl → (Option Int → List Vl → Prop) → Prop
def LO (K : PySem.W.Frag) (B : Ba) (lk : List Nat) (t : DTO) : TO := fun σ H Q => ∃ lv st tm tv Q0, Lk B lv lk ∧ Rel K B lv st tm σ tv H ∧ t st Q0 ∧ ∀ b st' H', Q0 b st' → Rel K B lv st' tm σ tv H' → Q b H'
abbrev DO (X : Cx) (B : Ba) (lk : List Nat) (e : Option Expr) (t : DTO) : Prop := PO X e (LO X.K B lk t)
theorem PO.weak {X : Cx} {e : Option Expr} {t t' : TO} (h : PO X e t) (i : ∀ σ H Q, t' σ H Q → t σ H Q) : PO X e t' := ⟨fun pins s σ H Q I q => h.run pins s σ H Q I (i σ H Q q)⟩
def cNoP : DTO := fun st Q => Q none st
def cPt (t : DT) : DTO := fun st Q => t st fun d st' => match d with
  | .fr (.int i) => Q (some i) st'
  | _ => False
/-- xs[lo:hi] -/
def cut (xs : List PyData) (lo hi : Option Int) : List PyData := (xs.drop (HT.sIx xs.length 0 lo)).take (HT.sIx xs.length xs.length hi - HT.sIx xs.length 0 lo)
def cSl (t : DT) (tl th : DTO) : DT := fun st Q => t st fun d st1 => tl st1 fun lo st2 => th st2 fun hi st3 => match pyO st3 d with
  | some (.list xs) => Q (.ow (cut xs lo hi)) st3
  | some (.tuple xs) => Q (.fr (.tuple (cut xs lo hi))) st3
  | some (.str x) => x.length ≤ sizeLine ∧ Q (.fr (.str (cutS x lo hi))) st3
  | _ => False
section
variable {X : Cx} {B : Ba} {lk : List Nat} {e : Expr} {te : DT} {lo hi : Option Expr} {tl th : DTO} {pos p2 : Pos}
theorem do_no : DO X B lk none cNoP := PO.weak po_none fun σ H Q ⟨lv, st, tm, tv, Q0, L, R, h, k⟩ => k _ _ _ h R
theorem do_at (h : DE X B lk e te) : DO X B lk (some e) (cPt te) := PO.weak (po_some h) fun σ H Q ⟨lv, st, tm, tv, Q0, L, R, h, k⟩ => by
  refine ⟨lv, st, tm, tv, _, L, R, h, fun d st' v H' q R' => ?_⟩
  split at q
  · rename_i i
    obtain rfl := R'.isInt
    exact ⟨i, rfl, k _ _ _ q R'.pop⟩
  · exact q.elim
def rSl3 (K : PySem.W.Frag) : V → Option Int → Option Int → Hp → VK → Prop := fun x lo hi H Q => rSlL K x lo hi H Q ∨ (rSlA K x lo hi H Q ∨ rSlS x lo hi H Q)
theorem sl3 : SlR X (rSl3 X.K) := sl_list.or (sl_tupA.or sl_str)
theorem cut_rp {K : PySem.W.Frag} {F : Addr → Prop} {H : Hp} {vs : List V} {ds : List PyData} (r : RpA K F H vs ds) (lo hi : Option Int) : RpA K F H (cutV vs lo hi) (cut ds lo hi) := by
  unfold cutV cut
  rw [r.length]
  exact (r.drop _).take _
theorem cut_whole {xs : List PyData} {lo hi : Option Int} (h : HT.sIx xs.length 0 lo = 0 ∧ HT.sIx xs.length xs.length hi = xs.length) : cut xs lo hi = xs := by
  unfold cut
  rw [h.1, h.2, List.drop_zero, Nat.sub_zero, List.take_length]
theorem de_slice (ht : DE X B lk e te) (hl : DO X B lk lo tl) (hh : DO X B lk hi th) : DE X B lk (.Subscript e (.Slice lo hi none p2) pos) (cSl te tl th) :=
  PE.weak (pe_slice sl3 ht hl hh) fun σ H Q ⟨lv, st, tm, tv, Q0, L, R, h, k⟩ => by
    refine ⟨lv, st, tm, tv, _, L, R, h, fun d st1 v H1 q1 R1 => ⟨lv, st1, d :: tm, v :: tv, _, L, R1, q1, fun l st2 H2 q2 R2 => ⟨lv, st2, d :: tm, v :: tv, _, L, R2, q2, fun u st3 H3 q R3 => ?_⟩⟩⟩
    obtain ⟨F, O, R4⟩ := R3
    split at q
    · rename_i xs e1
      obtain ⟨a, vs, rfl, h1, r⟩ := R4.lst e1
      exact .inl ⟨a, vs, rfl, h1, fun p hp => k _ _ _ _ q ⟨F, _, R4.pop.newLst hp (cut_rp r _ _)⟩⟩
    · rename_i xs e1
      obtain ⟨a, vs, rfl, h1, r⟩ := R4.tup e1
      refine .inr (.inl ⟨a, vs, rfl, h1, fun hw => ?_, fun _ p hp => k _ _ _ _ q ⟨F, _, R4.pop.newTup hp (cut_rp r _ _)⟩⟩)
      rw [r.length] at hw
      rw [cut_whole hw] at q
      exact k _ _ _ _ q ⟨F, O, R4.pop.push (d := .fr _) (.tup h1 r)⟩
    · rename_i x e1
      obtain rfl := (R4.scal e1).2.2.2 x rfl
      exact .inr (.inr ⟨x, rfl, q.1, k _ _ _ _ q.2 ⟨F, O, R4.pop.push (d := .fr (.str _)) (.str _)⟩⟩)
    · exact q.elim
/-! xs[::-1] -/
section
variable {prog : Program} {w : World} {A : Around} {E : Value → Shared → Prop} {s : Shared}
theorem pick_rev : ∀ (xs : List Value), (List.range xs.length).filterMap (fun (m : Nat) => xs.toArray[(((xs.length : Int) - 1) + (m : Int) * (-1)).toNat]?) = xs.reverse := by
  intro xs
  have e : (List.range xs.length).filterMap (fun (m : Nat) => xs.toArray[(((xs.length : Int) - 1) + (m : Int) * (-1)).toNat]?) = (List.range xs.length).filterMap (fun m => xs.reverse[m]?) := by
    have key : ∀ (l : List Nat), (∀ m ∈ l, m < xs.length) → l.filterMap (fun (m : Nat) => xs.toArray[(((xs.length : Int) - 1) + (m : Int) * (-1)).toNat]?) = l.filterMap (fun m => xs.reverse[m]?) := by
      intro l
      induction l with
      | nil => intro _; rfl
      | cons m l ih =>
        intro h
        have hm := h m List.mem_cons_self
        rw [List.filterMap_cons, List.filterMap_cons, ih fun k hk => h k (List.mem_cons_of_mem _ hk), List.getElem?_reverse hm, List.getElem?_toArray, show (((xs.length : Int) - 1) + (m : Int) * (-1)).toNat = xs.length - 1 - m by omega]
    exact key _ fun m hm => List.mem_range.mp hm
  rw [e]
  have : ∀ ys : List Value, (List.range ys.length).filterMap (fun m => ys[m]?) = ys := by
    intro ys
    induction ys with
    | nil => rfl
    | cons y ys ih =>
      rw [List.length_cons, List.range_succ_eq_map, List.filterMap_cons, List.filterMap_map]
      simp only [List.getElem?_cons_zero]
      congr 1
  have h := this xs.reverse
  rw [List.length_reverse] at h
  exact h
theorem getItem_tuple_rev {t sl : Addr} {items : List Value} {vl vu vs : Value} {Q : Value → Shared → Prop} (ht : s.heap.IsTuple t items.toArray) (hs : s.heap.IsSliceOf sl vl vu vs) (pl : IsPart vl none) (pu : IsPart vu none) (ps : IsPart vs (some (-1)))
    (h : Q (.ref s.heap.objs.size) { s with heap := s.heap.push { cls := .type "tuple", data := .seq items.reverse.toArray } })
    (hsz : items.length ≤ sizeLine) : wpAny (model prog w) A (getItem (.ref t) (.ref sl)) Q E s := by
  have htake : sizeOk (.seq items.reverse.toArray) := by
    show items.reverse.toArray.size ≤ sizeLine
    rw [List.size_toArray, List.length_reverse]
    exact hsz
  obtain ⟨os, hos, hcs, hds⟩ := id hs
  have hTs : s.TypeIs (.ref sl) "slice" := ⟨os, hos, hcs⟩
  cases pl
  cases pu
  cases ps
  have ht' : IsTup s.heap t items.toArray := ht
  unfold getItem
  try with_reducible refine wpAny_holding ?_
  first | refine wpAny_bind (wpAny_pure ?_) | skip
  refine wpAny_bind (wpAny_sequenceKey ht.typeIs (by decide) ?_)
  refine wpAny_bind (wpAny_callSpecial?_slot (name := Str.ofString "__getitem__") ht.typeIs PyProof.Rows.slot_tuple_getitem
    (wpAny_call_entry PyProof.Rows.slot_tuple_getitem ht.typeIs entry_tuple_getitem ?_ (args_tuple_getitem _ _)))
  show wpAny _ _ (Builtin.Tuple.tupleItemsOf (.ref t) >>= _) _ _ s
  refine wpAny_bind (PyProof.Rows.tupleItemsOf_ ht' ?_)
  refine wpAny_bind (wpAny_typeOf hTs ?_)
  rw [if_pos (by decide)]
  have hap : ∀ {Q : Int × Int × Nat → Shared → Prop} {E : Value → Shared → Prop} {A : Around}, Q ((items.length : Int) - 1, -1, items.length) s → wpAny (model prog w) A (Builtin.Slice.sliceApplied (.ref sl) (pure (items.toArray.size : Int))) Q E s := fun hq => by
    unfold Builtin.Slice.sliceApplied Builtin.Slice.sliceFields
    refine wpAny_bind (wpAny_bind (wpAny_field hos hds (x := .none) rfl (wpAny_bind (wpAny_field hos hds (x := .none) rfl (wpAny_bind (wpAny_field hos hds (x := .int (-1) _) rfl (wpAny_pure ?_)))))))
    refine wpAny_bind (slicePart_int ?_)
    show wpAny _ _ (if ((-1 : Int) == 0) = true then _ else _) _ _ s
    rw [if_neg (by decide)]
    refine wpAny_bind (slicePart_none (wpAny_bind (slicePart_none (wpAny_bind (wpAny_pure ?_)))))
    have e1 : Builtin.Slice.sliceAdjust none none (-1) (items.toArray.size : Int) = ((items.length : Int) - 1, -1) := by
      unfold Builtin.Slice.sliceAdjust
      simp
    have e2 : Builtin.Slice.slicePlaces ((items.length : Int) - 1) (-1) (-1) = items.length := by
      unfold Builtin.Slice.slicePlaces
      simp
      omega
    show wpAny _ _ (match Builtin.Slice.sliceAdjust none none (-1) (items.toArray.size : Int) with | (lo, hi) => pure (lo, (-1 : Int), Builtin.Slice.slicePlaces lo hi (-1))) _ _ s
    rw [e1]
    show wpAny _ _ (pure ((items.length : Int) - 1, (-1 : Int), Builtin.Slice.slicePlaces ((items.length : Int) - 1) (-1) (-1))) _ _ s
    rw [e2]
    exact wpAny_pure hq
  refine wpAny_bind (hap ?_)
  have hno : ¬ ((((items.length : Int) - 1 == 0) && ((-1 : Int) == 1) && (items.length == items.toArray.size)) = true) := by
    intro q
    rw [Bool.and_eq_true, Bool.and_eq_true] at q
    exact absurd q.1.2 (by decide)
  show wpAny _ _ (if (((items.length : Int) - 1 == 0) && ((-1 : Int) == 1) && (items.length == items.toArray.size)) = true then _ else _) _ _ s
  rw [if_neg hno]
  rw [pick_rev]
  first
    | exact wpAny_bind (m := Builtin.Tuple.tupleExact _) (wpAny_newObj_type (wpAny_pure ⟨_, rfl, wpAny_pure h⟩) htake)
    | exact wpAny_bind (m := Builtin.Tuple.tupleExact _) (wpAny_newObj_type (wpAny_bind (wpAny_pure (wpAny_pure ⟨_, rfl, wpAny_pure h⟩))) htake)
    | exact wpAny_bind (wpAny_bind (m := Builtin.Tuple.tupleExact _) (wpAny_newObj_type (wpAny_pure (wpAny_pure ⟨_, rfl, wpAny_pure h⟩)) htake))
    | exact wpAny_bind (wpAny_bind (m := Builtin.Tuple.tupleExact _) (wpAny_newObj_type (wpAny_pure ⟨_, rfl, wpAny_pure h⟩) htake))
end
end
end DL

/-! The data layer, part 9: xs[::-1], list methods, x[i] = e. -/
namespace DL
open PySem PySem.Spec PyProof.Rows L2
section
variable {X : Cx} {B : Ba} {lk : List Nat} {e : Expr} {te : DT} {pos p2 : Pos}
end

/-! ### methods of an owned list, through its alias -/
abbrev GM := List PyData → List PyData → (List PyData → PyData → Prop) → Prop
def MOk (g : GM) (r : V → List V → Hp → VK → Prop) : Prop := ∀ (K : PySem.W.Frag) (F : Addr → Prop) H a vs xs us ys Q0 (Q : VK), H a = some (.lst vs) → RpA K F H vs xs → RpA K F H us ys → g xs ys Q0 →
  (∀ zs y vz w, Q0 zs y → RpA K F H vz zs → Rp K F H w y → Q w (upd H a (.lst vz))) → r (.ref a) us H Q
def cMth (g : GM) (to : DT) (ta : DTA) : DT := fun st Q => to st fun d st1 => match d with
  | .bor i => ta st1 fun ds st2 => (match st2[i]?, frs ds with
    | some (.ow xs), some ys => g xs ys fun zs y => Q (.fr y) (st2.set i (.ow zs))
    | _, _ => False)
  | _ => False
section
variable {X : Cx} {B : Ba} {lk : List Nat} {o e : Expr} {es : List Expr} {to : DT} {t : DTA} {name : Str} {apos cpos : Pos} {id : String} {g : GM} {r : V → List V → Hp → VK → Prop}
/-- an alias, as an owned list, has its type at once -/
theorem mth_weak {K : PySem.W.Frag} (ok : MOk g r) {σ : L2.St} {H : Hp} {Q : VK} {lv : List (Nat × V)} {st st1 tm : List Vl} {i : Nat} {v : V} {tv : List V} {H1 : Hp} {Q0 : Vl → List Vl → Prop} {ds : List Vl} {vs : List V} (hl : vs.length = ds.length)
    (R : Rel K B lv st (ds.reverse ++ (.bor i :: tm)) σ (vs.reverse ++ (v :: tv)) H)
    (q : match st[i]?, frs ds with
      | some (.ow xs), some ys => g xs ys fun zs y => Q0 (.fr y) (st.set i (.ow zs))
      | _, _ => False) (k : ∀ d st' v H', Q0 d st' → Rel K B lv st' (d :: tm) σ (v :: tv) H' → Q v H') : r v vs H Q := by
  split at q
  · rename_i xs ys e1 e2
    obtain rfl := frs_eq e2
    obtain ⟨F, O, R⟩ := R
    rw [List.length_map] at hl
    obtain ⟨ra, R1⟩ := RelX.frs hl R
    obtain ⟨a, ws, rfl, ho, h1, r1, hs⟩ := R1.ofAlias e1
    refine ok K F H a ws xs vs ys _ Q h1 r1 ra q fun zs y vz w q2 rz rw' => ?_
    have R2 := (R1.pop).putL ho h1 hs rz
    have kp : Kp F H (upd H a (.lst vz)) := fun b ob eb hb => by
      by_cases z : b = a
      · subst z
        rcases hb with f | s
        · have := R1.fo b f
          rw [ho] at this; cases this
        · rw [h1] at eb; cases eb; exact s.elim
      · rw [upd_ne z]; exact eb
    exact k _ _ _ _ q2 ⟨F, O, R2.push (d := .fr y) (Rp.keep (fun _ f => f) kp _ _ rw')⟩
  · exact q.elim
theorem tyL {K : PySem.W.Frag} {lv : List (Nat × V)} {st tm : List Vl} {σ : L2.St} {tv : List V} {H : Hp} {i : Nat} {v : V} {xs : List PyData} (R : Rel K B lv st (.bor i :: tm) σ (v :: tv) H) (e : st[i]? = some (.ow xs)) : tyV K "list" v H := by
  obtain ⟨F, O, R⟩ := R
  obtain ⟨a, ws, rfl, ho, h1, _⟩ := R.ofAlias e
  exact .inl ⟨rfl, ws, SqL.of h1⟩
/-- o.m(e, ..): o a name; the arguments leave o's list a list -/
def cMth' (g : GM) (to : DT) (ta : DTA) : DT := fun st Q => to st fun d st1 => match d with
  | .bor i => (∃ xs, st1[i]? = some (.ow xs)) ∧ ta st1 fun ds st2 => (match st2[i]?, frs ds with
    | some (.ow xs), some ys => g xs ys fun zs y => Q (.fr y) (st2.set i (.ow zs))
    | _, _ => False)
  | _ => False
theorem de_mth (slot : Slot "list" name id) (hty : typeOf (.builtin id) = pure (.type "method_descriptor")) (hm : MtR X id r) (ok : MOk g r) (ho : DE X B lk o to) (ha : DA X B lk (e :: es) t)
    (hbase : attributeBase o name X.env (eval o X.env) = eval o X.env := by rfl)
    (hfew : ((backTo cpos (starEach (e :: es) X.env)).all (fun x => !x.1) && (backToKw cpos (keywordEach [] X.env)).all (fun x => x.1.isSome)
      && decide ((e :: es).length + ([] : List Keyword).length + (if ([] : List Keyword).isEmpty then 0 else 1) < 30)) = true := by rfl)
    (hline : (apos.endLine == cpos.line) = true := by rfl) (hs : starEach (e :: es) X.env = (false, eval e X.env) :: starEach es X.env := by rfl) (hplain : (backTo cpos (starEach es X.env)).any (·.1) = false := by rfl) :
    DE X B lk (.Call (.Attribute o name apos) (e :: es) [] cpos) (cMth' g to t) :=
  PE.weak (pe_bm PySem.F.plainAttrs_list slot hty hm ho ha hbase hfew hline hs hplain) fun σ H Q ⟨lv, st, tm, tv, Q0, L, R, h, k⟩ => by
    refine ⟨lv, st, tm, tv, _, L, R, h, fun d st1 v H1 q1 R1 => ?_⟩
    split at q1
    · rename_i i
      obtain ⟨⟨xs, e1⟩, q1⟩ := q1
      exact ⟨tyL R1 e1, lv, st1, .bor i :: tm, v :: tv, _, L, R1, q1, fun ds st2 vs H2 q2 hl R2 => mth_weak (st1 := st1) (H1 := H1) ok hl R2 q2 k⟩
    · exact q1.elim
def gApp : GM := fun xs ys Q => match ys with
  | [y] => xs.length < sizeLine ∧ Q (xs ++ [y]) .none
  | _ => False
theorem rp1 {K : PySem.W.Frag} {F : Addr → Prop} {H : Hp} {us : List V} {y : PyData} (r : RpA K F H us [y]) : ∃ u, us = [u] ∧ Rp K F H u y := by
  cases r with
  | cons r q => cases q; exact ⟨_, rfl, r⟩
theorem gApp_ok : MOk gApp rAppend := fun K F H a vs xs us ys Q0 Q h r ra q k => by
  unfold gApp at q
  split at q
  · obtain ⟨u, rfl, ru⟩ := rp1 ra
    exact ⟨a, vs, u, rfl, rfl, h, by rw [r.length]; exact q.1, k _ _ _ _ q.2 (r.append (.one ru)) .non⟩
  · exact q.elim
theorem de_append (ho : DE X B lk o to) (ha : DA X B lk [e] t) (hbase : attributeBase o "append" X.env (eval o X.env) = eval o X.env := by rfl)
    (hfew : ((backTo cpos (starEach [e] X.env)).all (fun x => !x.1) && (backToKw cpos (keywordEach [] X.env)).all (fun x => x.1.isSome)
      && decide ([e].length + ([] : List Keyword).length + (if ([] : List Keyword).isEmpty then 0 else 1) < 30)) = true := by rfl)
    (hline : (apos.endLine == cpos.line) = true := by rfl) (hs : starEach [e] X.env = (false, eval e X.env) :: starEach [] X.env := by rfl) (hplain : (backTo cpos (starEach [] X.env)).any (·.1) = false := by rfl) :
    DE X B lk (.Call (.Attribute o "append" apos) [e] [] cpos) (cMth' gApp to t) := de_mth PySem.F.slot_list_append PySem.F.type_list_append mt_append gApp_ok ho ha hbase hfew hline hs hplain
def gIns : GM := fun xs ys Q => match ys with
  | [.int i, y] => xs.length < sizeLine ∧ 0 ≤ i ∧ i < 2 ^ 63 ∧ Q (xs.take i.toNat ++ [y] ++ xs.drop i.toNat) .none
  | _ => False
/-! ### x[i] = e -/
def gSub (to ti : DT) : DTG := fun d st Q => to st fun o st1 => ti st1 fun i st2 => match o, i, d with
  | .bor s, .fr (.int k), .fr y => (match st2[s]? with
    | some (.ow xs) => ∃ j, ixN xs.length k = some j ∧ Q (st2.set s (.ow (xs.set j y)))
    | _ => False)
  | _, _, _ => False
theorem dg_sub {i : Expr} {ti : DT} {pos : Pos} (ho : DE X B lk o to) (hi : DE X B lk i ti)
    (ha : ∀ v, assign (.Subscript o i pos) X.env v = (do
      let ov ← holding [v] (eval o X.env)
      let iv ← holding [v, ov] (eval i X.env)
      standAt pos
      holding [v, ov, iv] (setItem ov iv v)
      release [v, ov, iv] []) := by intro _; rfl) : DG X B lk [] (.Subscript o i pos) (gSub to ti) :=
  PG.weak (pg_sub ho hi set_list ha) fun v σ H Q ⟨lv, st, d, tm, tv, Q0, L, Bt, R, h, k⟩ => by
    refine ⟨lv, st, d :: tm, v :: tv, _, L, R, h, fun o' st1 ov H1 q1 R1 => ⟨lv, st1, o' :: d :: tm, ov :: v :: tv, _, L, R1, q1, fun i' st2 iv H2 q2 R2 => ?_⟩⟩
    split at q2
    · rename_i s k' y
      obtain rfl := R2.isInt
      split at q2
      · rename_i xs e1
        obtain ⟨j, hj, q⟩ := q2
        obtain ⟨F, O, R3⟩ := R2.pop
        obtain ⟨a, ws, rfl, ho', h1, r1, hs⟩ := R3.ofAlias e1
        have rv : Rp X.K F H2 v y := R3.pop.top (d := .fr y) (fun i z => by cases z)
        refine ⟨a, ws, k', j, rfl, rfl, h1, by rw [r1.length]; exact hj, ?_⟩
        exact k _ _ _ q ⟨rfl, fun _ _ => rfl⟩ ⟨F, O, (R3.pop.pop).putL ho' h1 hs (RpA.set rv j r1)⟩
      · exact q2.elim
    · exact q2.elim
end
end DL

/-! The data layer, part 10: a def from its body; the law's end. -/
namespace DL
open PySem PySem.Spec PyProof.Rows L2

theorem dss_nox {X : Cx} {B : Ba} {lk : List Nat} {b : List Stmt} {t : DTS} (h : DSs X.nox B lk b t) : DSs X B lk b t := PSs.nox h
section
variable {P : Program} {w : World} {K : PySem.W.Frag} {mg : Str → Option Value} {base : Heap} {CX : CXT} {k : Nat} {x qual : Str} {params : Arguments} {body : List Stmt} {scope : Scope} {dvs : List V} {kws : List (Str × V)} {f : Addr} {fd : FuncData}
/-- a def by its body, where no repr is under way (the rows follow the library's rule for any state) -/
theorem fn_ofG {N ps : List Str} {sp : Sp} (F : FunD K x qual params body scope dvs kws f fd) (S : FnScope N ps scope) (len : ∀ vs H Q E, sp vs H Q E → vs.length = ps.length)
    (hbody : ∀ (cdv : Value) (A : Around) (outer : List Env) (s : Shared) (H : Hp) (vs : List V) (Q : VK) (E : XK), Room k (A.deeper (envOfC qual scope s.heap.objs.size f cdv)) → A.guards = some [] → sp vs H Q E →
      ∃ t, PSs (cxOf CX P w K mg base N qual scope f cdv A outer s H E) body t ∧ t { nx := fun _ H' => Q .non H', rt := Q } (start N vs) H) : FnG P w K mg base CX (k + 1) f fd ps sp := by
  obtain ⟨oc, od, dV, kV, doc, pm, an, cdv, ct, osl, rfl, lk, hcd, _, _⟩ := F.ex
  refine ⟨len, fun A outer s H args us vs Q E hr hgd e0 hb r hsp => ?_⟩
  have hl := len _ _ _ _ hsp
  have KX : K.In s.heap := e0.mod.kin.keeps fun b o e => (e0.bs b o e).1
  have lim : s.heap.NoLimit := e0.mod.nolimit.keeps fun b o e => (e0.bs b o e).1
  have hkind : ∀ y ∈ ps.zip us, scope.names.lookup y.1 = some .local ∨ (scope.names.lookup y.1 = some .cell ∧ ((cellsFrom (s.heap.objs.size + 1) scope.names []).lookup y.1).isSome = true) := fun ⟨n, v⟩ hy =>
    (S.par n (List.of_mem_zip hy).1).imp id fun q => ⟨q, PySem.W.cellsFrom_some _ _ _ (.inl q)⟩
  refine codeAny_call_function hr.depth (KX _ _ lk) rfl S.co S.gen rfl (PySem.W.codeRec_of KX hcd) (hb _ _ _ _ ?_)
  refine wpAny_newFunctionEnv_cells S.kind hkind fun env he s1 x => ?_
  subst he
  refine ⟨lim.keeps x.toInCall.keep, codeAny_func ?_⟩
  obtain ⟨t, ht, hq⟩ := hbody cdv A outer s H vs Q E (hr.deeper _) hgd hsp
  have I : Inv (cxOf CX P w K mg base N qual scope f cdv A outer s H E) [] (start N vs) H s1 := inv_start S hr.hd e0 hl r x
  refine wpAny_mono (ht.run [] s1 (start N vs) H _ I hq) (fun fl s' hs => ?_) fun e s' hs => hs
  match fl, hs with
  | .ret u, ⟨v, σ', H', J, rv, q⟩ => exact ⟨v, H', J.os, J.bare, J.base, J.hok, rv, q⟩
  | .next, ⟨σ', H', J, q⟩ => exact ⟨.non, H', J.os, J.bare, J.base, J.hok, rfl, q⟩
  | .brk, ⟨_, _, _, q⟩ => exact False.elim q
  | .cont, ⟨_, _, _, q⟩ => exact False.elim q

/-! ### a def's promise from its body's reading -/
def lvs (lk : List Nat) (vs : List V) : List (Nat × V) := lk.filterMap fun i => (vs[i]?).map fun v => (i, v)
theorem lvs_in {lk : List Nat} {vs : List V} {p : Nat × V} (h : p ∈ lvs lk vs) : p.1 ∈ lk ∧ vs[p.1]? = some p.2 := by
  unfold lvs at h
  obtain ⟨i, hi, e⟩ := List.mem_filterMap.mp h
  obtain ⟨v, hv, rfl⟩ := Option.map_eq_some_iff.mp e
  exact ⟨hi, hv⟩
theorem lvs_of {lk : List Nat} {vs : List V} {i : Nat} {v : V} (h : i ∈ lk) (e : vs[i]? = some v) : (i, v) ∈ lvs lk vs := List.mem_filterMap.mpr ⟨i, h, by rw [e]; rfl⟩
abbrev dEnds (Q0 : Vl → List Vl → Prop) : DEnds := { nx := fun st => Q0 (.fr .none) st, rt := fun d st => (∀ i, d ≠ .bor i) ∧ Q0 d st }
theorem def_run {N ps : List Str} {lk : List Nat} {n : Nat} {S : VSp} (F : FunD K x qual params body scope dvs kws f fd) (Sc : FnScope N ps scope) (hn : ps.length = n) (hN : n ≤ N.length)
    (t : DTS) (hbody : ∀ (cdv : Value) (A : Around) (outer : List Env) (s : Shared) (H : Hp) (E : XK) (B : Ba), Room k (A.deeper (envOfC qual scope s.heap.objs.size f cdv)) → A.guards = some [] → DSs (cxOf CX P w K mg base N qual scope f cdv A outer s H E) B lk body t)
    (read : ∀ ds Q0 E0, S ds Q0 E0 → t (dEnds Q0) (ds ++ List.replicate (N.length - n) .gone)) : FnG P w K mg base CX (k + 1) f fd ps (spV K mg lk n S) := by
  refine fn_ofG F Sc (fun vs H Q E h => h.1.trans hn.symm) fun cdv A outer s H vs Q E hr hgd h => ?_
  obtain ⟨hl, F0, O0, ds, Q0, E0, pre, hS, kQ, kE⟩ := h
  let B : Ba := ⟨H, fun a => O0 a ≠ none, F0, lvs lk vs⟩
  refine ⟨_, hbody cdv A outer s H E B hr hgd, ?_⟩
  have hlen : ds.length = n := pre.len.trans hl
  have hs : ∀ i v, vs[i]? = some v → (start N vs)[i]? = some (some v) := fun i v e => by
    have hi := (List.getElem?_eq_some_iff.mp e).1
    unfold L2.start
    rw [List.getElem?_append_left (by rw [List.length_map]; exact hi), List.getElem?_map, e]; rfl
  have R : RelX K B (lvs lk vs) (ds ++ List.replicate (N.length - n) .gone) [] (start N vs) [] H F0 (fun a => (O0 a).map Sum.inl) := by
    refine ⟨?_, fun i d e => ?_, (trivial : True), fun a fa => ?_, fun a w e => ?_, pre.fh, fun a o e _ => e, fun a w e => ?_, fun a fa => fa, fun a fa => .inl fa, fun p hp => hs _ _ (lvs_in hp).2⟩
    · unfold L2.start
      rw [List.length_append, List.length_append, List.length_map, List.length_replicate, List.length_replicate, hlen, hl]
    · by_cases hi : i < ds.length
      · rw [List.getElem?_append_left hi] at e
        have hv : i < vs.length := by rw [hl, ← hlen]; exact hi
        rcases pre.av i d _ e (List.getElem?_eq_getElem hv) with z | z
        · exact .inl z
        · exact .inr ⟨_, hs i _ (List.getElem?_eq_getElem hv), z⟩
      · rw [List.getElem?_append_right (Nat.not_lt.mp hi), List.getElem?_replicate] at e
        split at e
        · cases e; exact .inl rfl
        · cases e
    · rw [pre.fo a fa]; rfl
    · obtain ⟨i, ei, _⟩ := Option.map_eq_some_iff.mp e
      exact pre.oh a i ei
    · obtain ⟨i, ei, _⟩ := Option.map_eq_some_iff.mp e
      exact .inl (show O0 a ≠ none by rw [ei]; exact fun z => nomatch z)
  -- behind the body
  have post : ∀ st' σ' (tm : List Vl) (tv : List V) H' F' O', RelX K B (lvs lk vs) st' tm σ' tv H' F' O' → Post K F0 O0 vs H lk st' H' F' O' := fun st' σ' tm tv H' F' O' R' =>
    ⟨fun i hi d v e1 e2 => by
      rcases R'.sl i d e1 with z | ⟨u, h1, h2⟩
      · exact .inl z
      · have := R'.lk _ (lvs_of hi e2)
        rw [h1] at this
        cases this
        exact .inr h2,
    R'.fo, R'.oh, R'.fh, fun a o e n => R'.fr a o e (fun z => z n), fun a w e => R'.mi a w e, R'.f0, fun a fa => by
      rcases R'.f1 a fa with z | z | z
      · exact .inl z
      · exact .inr (.inl z)
      · exact .inr (.inr z)⟩
  refine ⟨lvs lk vs, _, [], [], dEnds Q0, ⟨fun p hp => (lvs_in hp).1, fun p hp => hp⟩, (fun i hi => absurd hi List.not_mem_nil), ⟨F0, _, R⟩, read ds Q0 E0 hS, ⟨fun st' σ' H' q ⟨F', O', R'⟩ => ?_, fun d st' v σ' H' q ⟨F', O', R'⟩ => ?_, fun _ _ _ z => z.elim, fun _ _ _ z => z.elim⟩⟩
  · exact kQ (.fr .none) st' .non H' F' O' q (post _ _ _ _ _ _ _ R') .non
  · exact kQ d st' v H' F' O' q.2 (post _ _ _ _ _ _ _ R') (R'.top q.1)
end

/-! ### the law -/
/-- the law's promise: True at every script -/
def lawS (n : Nat) : VSp := fun ds Q _ => ∃ ns : List Int, ns.length ≤ n ∧ ds = [.scr ns] ∧ ∀ ds', Q (.fr (.bool true)) ds'
theorem scrOf {K : PySem.W.Frag} {H : Hp} {a : Addr} {ns : List Int} (O : Only H) (h : SqL K H a (ns.map V.int)) : ScrAt K H a ns := by
  rcases h with (h | h) | h
  · rcases O a with z | ⟨o, xs, z⟩ <;> (rw [h] at z; cases z)
  · exact .inl h
  · exact .inr h
theorem lawSp {K : PySem.W.Frag} {mg : Str → Option Value} {lk : List Nat} {n : Nat} {H : Hp} {a : Addr} {ns : List Int} (hl : ns.length ≤ n) (O : Only H) (h : SqL K H a (ns.map V.int)) : spV K mg lk 1 (lawS n) [.ref a] H (fun v _ => v = .bl true) (fun _ _ _ => False) := by
  refine ⟨rfl, fun _ => False, fun _ => none, [.scr ns], fun r _ => r = .fr (.bool true), fun _ _ => False, ⟨rfl, fun i d v e1 e2 => ?_, fun _ z => z.elim, fun _ z => z.elim, fun _ _ z => by cases z⟩, ⟨ns, hl, rfl, fun _ => rfl⟩, fun r ds' v H' F' O' q _ hv => ?_, fun _ _ _ _ _ _ _ z => z.elim⟩
  · cases i with
    | zero =>
      cases e1
      cases e2
      exact .inr ⟨a, rfl, scrOf O h⟩
    | succ i => cases e1
  · subst q
    have hv : Rp K F' H' v (.bool true) := hv
    cases hv
    rfl
theorem law_callG {P : Program} {w : World} {K : PySem.W.Frag} {mg mb : Str → Option Value} {CX : CXT} {k : Nat} {fa a : Addr} {fd : FuncData} {x : Str} {sp : Sp} {s₁ : Shared} {vs : List Value} {ns : List Int}
    (KX : K.In s₁.heap) (hns : s₁.heap.Ns mainGlobals mg) (hb : s₁.heap.Ns builtinsNs mb) (hbb : ∀ x : Str, x ≠ "__name__" → mb x = bootBuiltins x) (hlim : s₁.heap.NoLimit) (hg : s₁.gens = #[])
    (ha : s₁.heap.get? a = some { cls := .type "list", data := .seq vs.toArray }) (hi : IntsAre vs ns) (hl : ns.length ≤ sizeLine) (hr : Room k callerA)
    (F : ∀ base : Heap, K.In base → base.Ns mainGlobals mg → FnG P w K mg base CX k fa fd [x] sp) (hbind : ∀ (s : Shared) (u : Value), BindsTo s fd ⟨[u], []⟩ [(x, u)])
    (hsp : ∀ H : Hp, Only H → SqL K H a (ns.map V.int) → sp [.ref a] H (fun v _ => v = .bl true) fun _ _ _ => False)
    (hCX : ∀ H e s', CX [] H s₁ (fun _ _ _ => False) e s' → False) :
    codeAny (model P w) callerA (.call (.ref fa) ⟨[.ref a], []⟩) (fun r s' => r = .ok (.ret (.bool true)) ∧ OldK s₁.heap s'.heap ∧ s'.os = s₁.os ∧ AllBare s'.gens) s₁ := by
  have core : ∀ H : Hp, Only H → SqL K H a (ns.map V.int) → HOk P w H s₁.heap → (∀ b, H b ≠ none → b = a) → (H a ≠ none → K.lookup a = none) →
      codeAny (model P w) callerA (.call (.ref fa) ⟨[.ref a], []⟩) (fun r s' => r = .ok (.ret (.bool true)) ∧ OldK s₁.heap s'.heap ∧ s'.os = s₁.os ∧ AllBare s'.gens) s₁ := by
    intro H hO hS hok hA hK
    have free : ∀ {b : Addr} {o : Obj}, s₁.heap.get? b = some o → (b = a → False) → H b = none := fun {b o} e h => by
      cases q : H b with
      | none => rfl
      | some u => exact (h (hA b (by rw [q]; exact fun z => nomatch z))).elim
    have nsK : ∀ {b : Addr} {m : Str → Option Value}, s₁.heap.Ns b m → (hidT s₁.heap H).Ns b m := fun {b m} ⟨o, es, ep, e, d, r⟩ => ⟨o, es, ep, hidT_get e (free e fun z => by
      subst z
      rw [ha] at e; cases e
      have d' : Data.seq vs.toArray _ = Data.dict es ep := d
      cases d'), d, r⟩
    have hKb : K.In (hidT s₁.heap H) := fun b o e => hidT_get (KX b o e) (by
      cases q : H b with
      | none => rfl
      | some u =>
        have e' : b = a := hA b (by rw [q]; exact fun z => nomatch z)
        subst e'
        rw [hK (by rw [q]; exact fun z => nomatch z)] at e; cases e)
    have hM : Mod K mg (hidT s₁.heap H) := ⟨hKb, nsK hns, ⟨mb, nsK hb, hbb⟩, let ⟨mc, h1, h2⟩ := hlim; ⟨mc, nsK h1, h2⟩⟩
    have e0 : Env0 P w K mg (hidT s₁.heap H) callerA [] s₁ H := ⟨rfl, hM, fun b o e => of_hidT e, Nat.le_of_eq (hidT_size _ _), trivial, (fun b hb => absurd hb List.not_mem_nil), hok, .of_eq hg⟩
    refine codeAny_mono ((F _ hKb (nsK hns)).run callerA [] s₁ H ⟨[.ref a], []⟩ [.ref a] [.ref a] _ _ hr rfl e0 (hbind s₁ (.ref a)) (.cons rfl .nil) (hsp H hO hS)) fun r s' h => ?_
    match r, h with
    | .error e, h => exact (hCX H e s' h).elim
    | .ok .next, h => exact False.elim h
    | .ok .brk, h => exact False.elim h
    | .ok .cont, h => exact False.elim h
    | .ok (.ret u), ⟨v, H', os, bare, un, hok', r', q⟩ =>
      obtain rfl : v = .bl true := q
      obtain rfl : u = Value.bool true := r'
      refine ⟨rfl, OldK.of_keep fun b o e => ?_, os, bare⟩
      cases q : H b with
      | none => exact un.keep b o e q (fun z => by cases z) (fun z => by cases z)
      | some u =>
        rcases hO b with z | ⟨ob, xs, z⟩
        · rw [q] at z; cases z
        · obtain ⟨e1, _⟩ := hok b _ z
          obtain ⟨e2, _⟩ := hok' b _ (un.frzs b ob _ z)
          rw [e] at e1; cases e1
          exact e2
  have rv := vals_ints hi
  cases hk : K.lookup a with
  | some o =>
    have e := KX a o hk
    rw [ha] at e
    cases e
    exact core (fun _ => none) (fun _ => .inl rfl) (.inr ⟨_, vs.toArray, _, hk, rfl, rfl, rfl, by rw [List.size_toArray, hi.length]; exact hl, by simpa using rv⟩) (fun b u z => by cases z) (fun b z => absurd rfl z) fun z => absurd rfl z
  | none =>
    refine core (fun b => if b = a then some (.frz { cls := .type "list", data := .seq vs.toArray } (.lst (ns.map V.int))) else none) (fun b => ?_) (.inl (.inr ⟨{ cls := .type "list", data := .seq vs.toArray }, if_pos rfl⟩)) (fun b u z => ?_) (fun b z => ?_) fun _ => hk
    · by_cases hb : b = a
      · exact .inr ⟨_, _, if_pos hb⟩
      · exact .inl (if_neg hb)
    · by_cases hb : b = a
      · have z' := (if_pos hb).symm.trans z
        cases z'
        subst hb
        exact ⟨ha, by rw [List.length_map]; exact hl, vs, _, rv, ha⟩
      · cases (if_neg hb).symm.trans z
    · exact Classical.byContradiction fun hb => absurd (if_neg hb) z
theorem walk_ofG {l : PySem.W.OpenLaw} {n k : Nat} {q : Program} {loose : List Str} {XP : (Str → Option Value) → Heap → Prop} {YP : World → Heap → Prop} {d : DefRec} {CX : CXT} {x : Str} {lk : List Nat}
    (hn : l.most = some n) (hn2 : n ≤ sizeLine) (hdf : d.params.defaults = []) (hr : Room k callerA)
    (F : ∀ (w : World) (mg : Str → Option Value) (fa : Addr) (h : Heap), YP w h → h.Ns mainGlobals mg → mg d.name = some (.ref fa) →
      ∃ (K : PySem.W.Frag) (fd : FuncData), K.In h ∧ (∀ (s : Shared) (u : Value), BindsTo s fd ⟨[u], []⟩ [(x, u)]) ∧
        ∀ base : Heap, K.In base → base.Ns mainGlobals mg → FnG l.prog w K mg base CX k fa fd [x] (spV K mg lk 1 (lawS n)))
    (hCX : ∀ (H : Hp) (s : Shared) (e : Value) (s' : Shared), CX [] H s (fun _ _ _ => False) e s' → False) :
    PySem.W.WalkO q loose XP YP l.row.toRowW d [] (fun f vs => PySem.call f vs) := by
  refine Att.attach_call hn hdf fun w s₀ s₁ mg mb fa o pm cd doc a vs ns G Y ho hd hcd hmg hobj hints hlen hg => ?_
  obtain ⟨K, fd, KX, hb, hF⟩ := F w mg fa _ Y G.T.g hmg
  exact law_callG KX G.T.g G.T.b G.T.builtins G.T.nolimit hg hobj hints (Nat.le_trans hlen hn2) hr hF hb (fun H hO hS => lawSp hlen hO hS) fun H e s' => hCX H s₁ e s'
end DL

/-! The data layer, part 11: loops and comprehensions by what each turn keeps. -/
namespace DL
open PySem PySem.Spec PyProof.Rows L2

/-- one turn of a comprehension: K takes the new item, or none -/
def lcTurn (ws : List Nat) (g : DTG) (tt : DTT) (te : DT) (d : PyData) (st : List Vl) (K : Option PyData → List Vl → Prop) : Prop :=
  g (.fr d) st fun st2 => tt st2 fun b st3 => if b = true then te st3 fun y st4 => (match y with
    | .fr z => K (some z) (wipeD ws st4)
    | _ => False) else K none (wipeD ws st3)
/-- every turn leaves the state as it is and gives r d -/
theorem lc_pure {ws : List Nat} {cond : List Vl → Prop} {g : DTG} {tt : DTT} {te : DT} {Q : List PyData → List Vl → Prop} {st : List Vl} (r : PyData → Option PyData) (hc : cond st) :
    ∀ (items acc : List PyData), acc.length + items.length ≤ sizeLine → (∀ d ∈ items, ∀ K : Option PyData → List Vl → Prop, K (r d) st → lcTurn ws g tt te d st K) → Q (acc ++ items.filterMap r) st → lcGo ws cond g tt te Q items acc st
  | [], acc, _, _, q => by simpa [lcGo] using q
  | d :: ds, acc, hl, step, q => by
    rw [List.length_cons] at hl
    have h := step d List.mem_cons_self (fun o st' => match o with
      | some z => acc.length < sizeLine ∧ cond st' ∧ lcGo ws cond g tt te Q ds (acc ++ [z]) st'
      | none => cond st' ∧ lcGo ws cond g tt te Q ds acc st') (by
        cases e : r d with
        | none => exact ⟨hc, lc_pure r hc ds acc (by omega) (fun d hd => step d (List.mem_cons_of_mem _ hd)) (by rw [List.filterMap_cons, e] at q; exact q)⟩
        | some z => exact ⟨by omega, hc, lc_pure r hc ds (acc ++ [z]) (by rw [List.length_append, List.length_singleton]; omega) (fun d hd => step d (List.mem_cons_of_mem _ hd)) (by
            rw [List.filterMap_cons, e] at q
            rw [List.append_assoc]
            exact q)⟩)
    rw [lcGo]
    exact h
/-- the same over encoded items -/
theorem lc_map {α : Type} {ws : List Nat} {cond : List Vl → Prop} {g : DTG} {tt : DTT} {te : DT} {Q : List PyData → List Vl → Prop} {st : List Vl} (l : List α) (enc : α → PyData) (r : α → Option PyData) {items : List PyData} (hi : items = l.map enc) (hc : cond st) (hl : l.length ≤ sizeLine)
    (step : ∀ a ∈ l, ∀ K : Option PyData → List Vl → Prop, K (r a) st → lcTurn ws g tt te (enc a) st K) (q : Q (l.filterMap r) st) : lcGo ws cond g tt te Q items [] st := by
  subst hi
  have key : ∀ (l : List α) (acc : List PyData), acc.length + l.length ≤ sizeLine → (∀ a ∈ l, ∀ K : Option PyData → List Vl → Prop, K (r a) st → lcTurn ws g tt te (enc a) st K) → Q (acc ++ l.filterMap r) st → lcGo ws cond g tt te Q (l.map enc) acc st := by
    intro l
    induction l with
    | nil => intro acc _ _ q; simpa [lcGo] using q
    | cons a l ih =>
      intro acc hl step q
      rw [List.length_cons] at hl
      rw [List.map_cons, lcGo]
      refine step a List.mem_cons_self (fun o st' => match o with
        | some z => acc.length < sizeLine ∧ cond st' ∧ lcGo ws cond g tt te Q (l.map enc) (acc ++ [z]) st'
        | none => cond st' ∧ lcGo ws cond g tt te Q (l.map enc) acc st') ?_
      cases e : r a with
      | none => exact ⟨hc, ih acc (by omega) (fun d hd => step d (List.mem_cons_of_mem _ hd)) (by rw [List.filterMap_cons, e] at q; exact q)⟩
      | some z => exact ⟨by omega, hc, ih (acc ++ [z]) (by rw [List.length_append, List.length_singleton]; omega) (fun d hd => step d (List.mem_cons_of_mem _ hd)) (by
          rw [List.filterMap_cons, e] at q
          rw [List.append_assoc]
          exact q)⟩
  exact key l [] (by simpa using hl) step (by simpa using q)
theorem for_map {α : Type} {cond : List Vl → Prop} {g : DTG} {tb : DTS} {D : DEnds} (l : List α) (enc : α → PyData) (I : List α → List Vl → Prop) {items : List PyData} {st : List Vl} (hi : items = l.map enc) (h : I l st)
    (step : ∀ a l' st, I (a :: l') st → ∀ K : List Vl → Prop, (∀ st', I l' st' → cond st' → K st') → g (.fr (enc a)) st fun st2 => tb { D with nx := K, ct := K, bk := D.nx } st2)
    (fin : ∀ st, I [] st → D.nx st) : forGo cond g tb D items st := by
  subst hi
  induction l generalizing st with
  | nil => exact fin st h
  | cons a l ih =>
    rw [List.map_cons, forGo]
    exact step a l st h _ fun st' h' hc' => ⟨hc', ih h'⟩
/-- while -/
theorem while_inv {c : DTT} {tb : DTS} {D : DEnds} {st : List Vl} (I : Nat → List Vl → Prop) (n : Nat) (h : I n st)
    (turn : ∀ m st, I m st → c st fun b st1 => if b = true then tb { D with nx := fun st' => ∃ m', m' < m ∧ I m' st', ct := fun st' => ∃ m', m' < m ∧ I m' st', bk := D.nx } st1 else D.nx st1) : cWhile c tb D st := ⟨I, ⟨n, h⟩, turn⟩
end DL

/-! The data layer, part 12: short names for what gen.py prints. -/
namespace DL
open PySem PySem.Spec PyProof.Rows L2
abbrev kSub : DOp := gI (fun _ _ => True) fun i j => .int (i - j)
abbrev kMul : DOp := gI IntMulOk fun i j => .int (i * j)
abbrev kFdiv : DOp := gI CD fun i j => .int (i / j)
abbrev kMod : DOp := gI (fun _ j => 0 < j) fun i j => .int (i % j)
abbrev kPow : DOp := gI CPow fun i j => .int (i ^ j.toNat)
abbrev kLt : DOp := gI (fun _ _ => True) fun i j => .bool (decide (i < j))
abbrev kGt : DOp := gI (fun _ _ => True) fun i j => .bool (decide (j < i))
abbrev kGe : DOp := gI (fun _ _ => True) fun i j => .bool (decide (j ≤ i))
abbrev kltb : Int → Int → Bool := fun i j => decide (i < j)
abbrev kleb : Int → Int → Bool := fun i j => decide (i ≤ j)
abbrev kAny : List Bool → Bool := fun bs => bs.any id
abbrev kAll : List Bool → Bool := fun bs => bs.all id
/-- BlkOk by a run -/
def blkB (N : List Str) (sc scope : Scope) (own : List (Str × Nat)) : Bool :=
  decide (scope.kind = .function) && scope.names.all (fun y => decide (scope.names.lookup y.1 = some y.2)) && own.all (fun p => decide (N[p.2]? = some p.1)) &&
  scope.names.all (fun y => !decide (y.2 = .free) || (decide (sc.names.lookup y.1 = some .cell) || decide (sc.names.lookup y.1 = some .free))) &&
  scope.names.all (fun y => !(decide (y.2 = .local) || decide (y.2 = .cell)) || ((own.map (·.1)).contains y.1 || !N.contains y.1))
theorem blk_ok {N : List Str} {sc scope : Scope} {own : List (Str × Nat)} (h : blkB N sc scope own = true) : BlkOk N sc scope own := by
  unfold blkB at h
  simp only [Bool.and_eq_true] at h
  obtain ⟨⟨⟨⟨h1, h2⟩, h3⟩, h4⟩, h5⟩ := h
  refine ⟨of_decide_eq_true h1, fun y hy => of_decide_eq_true (List.all_eq_true.mp h2 y hy), fun p hp => of_decide_eq_true (List.all_eq_true.mp h3 p hp), fun y hy e => ?_, fun y hy e => ?_⟩
  · have := List.all_eq_true.mp h4 y hy
    rw [decide_eq_true e, Bool.not_true, Bool.false_or, Bool.or_eq_true] at this
    exact this.imp of_decide_eq_true of_decide_eq_true
  · have := List.all_eq_true.mp h5 y hy
    have e' : (decide (y.2 = .local) || decide (y.2 = .cell)) = true := by
      rcases e with e | e
      · rw [decide_eq_true e]; rfl
      · rw [decide_eq_true e, Bool.or_true]
    rw [e', Bool.not_true, Bool.false_or, Bool.or_eq_true] at this
    rcases this with z | z
    · exact .inl (List.contains_iff_mem.mp z)
    · refine .inr fun q => ?_
      rw [List.contains_iff_mem.mpr q] at z
      cases z
theorem un0 {k : Nat} {A : Around} (hr : Room k A) : A.units + 100 < cLine := by have := hr.un; omega
theorem le_frz {K : PySem.W.Frag} {B : Ba} {lk : List Nat} {t : DT} {σ : L2.St} {H : Hp} {Q : VK} (h : LE K B lk (cFrz t) σ H Q) : LE K B lk t σ H Q := by
  obtain ⟨lv, st, tm, tv, Q0, L, R, h, k⟩ := h
  refine ⟨lv, st, tm, tv, _, L, R, h, fun d st' v H' q R' => ?_⟩
  cases d with
  | fr x => exact k _ _ _ _ q R'
  | ow ds => exact k _ _ _ _ q R'.frzTop
  | cst c => exact k _ _ _ _ q R'
  | bor i =>
    try dsimp only at q
    cases z : st'[i]? with
    | none => rw [z] at q; exact q.elim
    | some d =>
      rw [z] at q
      cases d with
      | ow ds => exact k _ _ _ _ q (R'.frzAlias z)
      | _ => exact False.elim q
  | _ => exact False.elim q
end DL

/-! The data layer, part 13: plain facts about data that laws share. -/
namespace DL
open PySem PySem.Spec PyProof.Rows L2
/-- a tuple, a list of whole numbers -/
abbrev pt (xs : List Int) : PyData := .tuple (xs.map .int)
abbrev pl (xs : List Int) : PyData := .list (xs.map .int)
abbrev pts (ps : List (List Int)) : PyData := .tuple (ps.map pt)
theorem eqvAll_ints : ∀ xs ys : List Int, PyData.eqvAll (xs.map .int) (ys.map .int) = decide (xs = ys) := fun xs ys => PySem.W.eqvAll_map xs ys
theorem eqv_int (x y : Int) : PyData.eqv (.int x) (.int y) = decide (x = y) := PySem.W.Datum.eqv x y
theorem eqv_str (x y : Str) : PyData.eqv (.str x) (.str y) = decide (x = y) := PySem.W.Datum.eqv x y
theorem eqv_pt (xs ys : List Int) : PyData.eqv (pt xs) (pt ys) = decide (xs = ys) := by rw [pt, pt, PyData.eqv, eqvAll_ints]
theorem eqv_pl (xs ys : List Int) : PyData.eqv (pl xs) (pl ys) = decide (xs = ys) := by rw [pl, pl, PyData.eqv, eqvAll_ints]
theorem eqv_nil (xs : List PyData) : PyData.eqv (.list xs) (.list []) = xs.isEmpty := by
  cases xs <;> simp [PyData.eqv, PyData.eqvAll]
theorem dep_ints (k : Nat) (xs : List Int) : (xs.map PyData.int).all (dep k) = true := by
  rw [List.all_map]
  exact List.all_eq_true.mpr fun x _ => by cases k <;> rfl
theorem dep_pt (k : Nat) (xs : List Int) : dep (k + 1) (pt xs) = true := by simp only [dep]; exact dep_ints k xs
theorem dep_pts (k : Nat) (ps : List (List Int)) : dep (k + 2) (pts ps) = true := by
  simp only [dep]
  rw [List.all_map]
  exact List.all_eq_true.mpr fun x _ => dep_pt k x
theorem dep_pt60 (xs : List Int) : dep 60 (pt xs) = true := dep_pt 59 xs
theorem dep_pts60 (ps : List (List Int)) : dep 60 (pts ps) = true := dep_pts 58 ps
theorem dep_int (k : Nat) (i : Int) : dep k (.int i) = true := by cases k <;> rfl
theorem dep_str (k : Nat) (i : Str) : dep k (.str i) = true := by cases k <;> rfl
theorem zip_ints (xs ys : List Int) : zip2D (xs.map .int) (ys.map .int) = (xs.zip ys).map fun p => .tuple [.int p.1, .int p.2] := by
  unfold zip2D
  rw [List.zipWith_map, List.zip, List.map_zipWith]
theorem zip_map {α β : Type} (f : α → PyData) (g : β → PyData) (xs : List α) (ys : List β) : zip2D (xs.map f) (ys.map g) = (xs.zip ys).map fun p => .tuple [f p.1, g p.2] := by
  unfold zip2D
  rw [List.zipWith_map, List.zip, List.map_zipWith]
theorem small {n k : Nat} (h : n ≤ k) (hk : k ≤ 16777216 := by decide) : n ≤ sizeLine := by rw [sizeLine_eq]; omega
theorem enum_map {α : Type} (f : α → PyData) : ∀ (xs : List α) (k : Nat), enumD k (xs.map f) = (xs.zipIdx k).map fun p => .tuple [.int (p.2 : Nat), f p.1]
  | [], _ => rfl
  | x :: xs, k => by rw [List.map_cons, enumD, enum_map f xs (k + 1), List.zipIdx_cons, List.map_cons]
theorem rng0 (n : Nat) : rng 0 (n : Int) = (List.range n).map fun i => .int (i : Nat) := by
  unfold rng
  rw [Int.sub_zero, Int.toNat_natCast]
  congr 1
  funext i
  rw [Int.zero_add]
theorem cut_take {k : Nat} (xs : List PyData) : cut xs none (some (k : Int)) = xs.take k := by
  unfold cut
  rw [HT.sIx_none, HT.sIx_nat, List.drop_zero, Nat.sub_zero]
  by_cases h : k ≤ xs.length
  · rw [Nat.min_eq_left h]
  · rw [Nat.min_eq_right (by omega), List.take_length, List.take_of_length_le (by omega)]
theorem cut_drop {k : Nat} (xs : List PyData) : cut xs (some (k : Int)) none = xs.drop k := by
  unfold cut
  rw [HT.sIx_none, HT.sIx_nat]
  by_cases h : k ≤ xs.length
  · rw [Nat.min_eq_left h, List.take_of_length_le (by rw [List.length_drop]; exact Nat.le_refl _)]
  · rw [Nat.min_eq_right (by omega), List.drop_length, List.drop_eq_nil_of_le (by omega), List.take_nil]
theorem ixN_ok {n i : Nat} (h : i < n) : ixN n (i : Int) = some i := by
  unfold ixN
  rw [if_pos (by omega), if_pos (by omega), Int.toNat_natCast]
theorem ixN_int {n : Nat} {i : Int} (h0 : 0 ≤ i) (h : i < n) : ixN n i = some i.toNat := by
  unfold ixN
  rw [if_pos h0, if_pos h]
theorem atI_int {α : Type} {xs : List α} {i : Int} (h0 : 0 ≤ i) (h : i < xs.length) : atI xs i = xs[i.toNat]? := by
  unfold atI
  rw [ixN_int h0 h]
  rfl
theorem atI_ok {α : Type} {xs : List α} {i : Nat} {d : α} (h : xs[i]? = some d) : atI xs (i : Int) = some d := by
  unfold atI
  have hl := (List.getElem?_eq_some_iff.mp h).1
  rw [ixN_ok hl]
  exact h
theorem atI_0 {α : Type} (x : α) (xs : List α) : atI (x :: xs) 0 = some x := by
  rw [atI_int (by omega) (by rw [List.length_cons]; omega)]; rfl
theorem atI_1 {α : Type} (x y : α) (xs : List α) : atI (x :: y :: xs) 1 = some y := by
  rw [atI_int (by omega) (by simp only [List.length_cons]; omega)]; rfl
theorem atI_2 {α : Type} (x y z : α) (xs : List α) : atI (x :: y :: z :: xs) 2 = some z := by
  rw [atI_int (by omega) (by simp only [List.length_cons]; omega)]; rfl
theorem ixN_30 : ixN 3 0 = some 0 := rfl
theorem ixN_32 : ixN 3 2 = some 2 := rfl
/-- a pick of a list of numbers, all of which are alike -/
theorem atI_all {P : Int → Prop} {xs : List PyData} {i : Int} (h0 : 0 ≤ i) (h : i < xs.length) (hp : ∀ d ∈ xs, ∃ p, d = .int p ∧ P p) : ∃ p, atI xs i = some (.int p) ∧ P p := by
  rw [atI_int h0 h]
  have hl : i.toNat < xs.length := by omega
  obtain ⟨p, e, q⟩ := hp _ (List.getElem_mem hl)
  exact ⟨p, by rw [List.getElem?_eq_getElem hl, e], q⟩
/-! sorting, texts -/
theorem sort_ints (xs : List Int) : (xs.map PyData.int).mergeSort (PySem.W.dataLe false id) = (xs.mergeSort fun a b => decide (a ≤ b)).map .int := by
  have h := PySem.W.dataLe_int (β := Int) (fun b => b)
  rw [← h]
  exact (List.map_mergeSort (r := PySem.W.dataLe false fun b : Int => PyData.int b) (s := PySem.W.dataLe false id) (f := PyData.int) (l := xs) fun _ _ _ _ => rfl).symm
theorem alike_ints' (xs : List Int) : PySem.W.AllAlike (xs.map .int) := .of fun _ _ => rfl
theorem sortable_ints (xs : List Int) : PySem.W.Sortable (xs.map .int) := .others fun _ => ⟨(by intro h; cases h), fun _ h => by cases h⟩
end DL

/-! The data layer, part 14: reading step by step. -/
namespace DL
open PySem PySem.Spec PyProof.Rows L2
section
variable {st st' : List Vl} {Q : Vl → List Vl → Prop} {QB : Bool → List Vl → Prop} {QA : List Vl → List Vl → Prop} {QO : Option Int → List Vl → Prop} {d : Vl} {i j : Nat} {a b : Int} {x y : PyData} {xs ys : List PyData} {ta tb tc : DT} {t u : DTT} {v w : Vl} {e f : Bool} {D : DEnds}
theorem s_K (h : Q d st) : cK d st Q := h
theorem s_varF (e : st[i]? = some (.fr x)) (h : Q (.fr x) st) : cVar i st Q := by unfold cVar; rw [e]; exact h
theorem s_varO (e : st[i]? = some (.ow xs)) (h : Q (.bor i) st) : cVar i st Q := by unfold cVar; rw [e]; exact h
theorem s_varS {ns : List Int} (e : st[i]? = some (.scr ns)) (h : Q (.scr ns) st) : cVar i st Q := by unfold cVar; rw [e]; exact h
def FrK (d : Vl) (st' : List Vl) (Q : Vl → List Vl → Prop) : Prop := match d with
  | .bor i => match st'[i]? with
    | some (.ow ds) => Q (.fr (.list ds)) (st'.set i (.fr (.list ds)))
    | _ => False
  | .ow ds => Q (.fr (.list ds)) st'
  | .fr d => Q (.fr d) st'
  | .cst c => Q (.cst c) st'
  | _ => False
theorem s_frz (h : ta st fun d st' => FrK d st' Q) : cFrz ta st Q := h
theorem s_frzF (h : Q (.fr x) st) : FrK (.fr x) st Q := h
theorem s_frzO (h : Q (.fr (.list xs)) st) : FrK (.ow xs) st Q := h
theorem s_c2 {g : DOp} (h : ta st fun x st1 => tb st1 fun y st2 => g st2 x y Q) : c2 g ta tb st Q := h
theorem s_c1 {g : List Vl → Vl → (Vl → List Vl → Prop) → Prop} (h : ta st fun x st1 => g st1 x Q) : c1 g ta st Q := h
theorem s_neg (h : Q (.fr (.int (-a))) st) : gNeg st (.fr (.int a)) Q := h
theorem s_gT {fn : Int → Int → PyData} (h : Q (.fr (fn a b)) st) : gI (fun _ _ => True) fn st (.fr (.int a)) (.fr (.int b)) Q := ⟨trivial, h⟩
theorem s_mul (c : IntMulOk a b) (h : Q (.fr (.int (a * b))) st) : kMul st (.fr (.int a)) (.fr (.int b)) Q := ⟨c, h⟩
theorem s_mod (c : 0 < b) (h : Q (.fr (.int (a % b))) st) : kMod st (.fr (.int a)) (.fr (.int b)) Q := ⟨c, h⟩
theorem s_fdiv (c1 : 0 < b) (c2 : b < 2 ^ 1000) (h : Q (.fr (.int (a / b))) st) : kFdiv st (.fr (.int a)) (.fr (.int b)) Q := ⟨⟨c1, c2⟩, h⟩
theorem s_pow {c : Int} (c1 : 0 ≤ b) (c2 : b ≤ 1000000) (c3 : a.natAbs < 2 ^ 64) (e : a ^ b.toNat = c) (h : Q (.fr (.int c)) st) : kPow st (.fr (.int a)) (.fr (.int b)) Q := by subst e; exact ⟨⟨c1, c2, c3⟩, h⟩
theorem s_addI (h : Q (.fr (.int (a + b))) st) : gAdd st (.fr (.int a)) (.fr (.int b)) Q := h
theorem s_addL (e1 : pyT st v = some (.list xs)) (e2 : pyT st w = some (.list ys)) (hz : xs.length + ys.length ≤ sizeLine) (h : Q (.ow (xs ++ ys)) st) : gAdd st v w Q := by unfold gAdd; rw [e1, e2]; exact ⟨hz, h⟩
theorem s_addT (e1 : pyT st v = some (.tuple xs)) (e2 : pyT st w = some (.tuple ys)) (hz : xs.length + ys.length ≤ sizeLine) (h : Q (.fr (.tuple (xs ++ ys))) st) : gAdd st v w Q := by unfold gAdd; rw [e1, e2]; exact ⟨hz, h⟩
theorem s_eq (e1 : pyO st v = some x) (e2 : pyO st w = some y) (h1 : dep 60 x = true) (h2 : dep 60 y = true) (h : Q (.fr (.bool (PyData.eqv x y))) st) : gEq false st v w Q := by unfold gEq; rw [e1, e2]; exact ⟨h1, h2, h⟩
theorem s_ne (e1 : pyO st v = some x) (e2 : pyO st w = some y) (h1 : dep 60 x = true) (h2 : dep 60 y = true) (h : Q (.fr (.bool (!PyData.eqv x y))) st) : gEq true st v w Q := by unfold gEq; rw [e1, e2]; exact ⟨h1, h2, h⟩
theorem s_isN (e1 : pyO st v = some x) (h : Q (.fr (.bool (isNon x))) st) : gIsN false st v (.fr .none) Q := by unfold gIsN; rw [e1]; exact h
theorem s_notN (e1 : pyO st v = some x) (h : Q (.fr (.bool (!isNon x))) st) : gIsN true st v (.fr .none) Q := by unfold gIsN; rw [e1]; exact h
theorem s_inT (e1 : pyO st v = some x) (e2 : pyO st w = some (.tuple ys)) (h1 : dep 60 x = true) (h2 : ys.all (dep 60) = true) (h : Q (.fr (.bool (ys.any fun z => PyData.eqv z x))) st) : gIn false st v w Q := by unfold gIn; rw [e1, e2]; exact ⟨h1, h2, h⟩
theorem s_ixL (e1 : pyO st v = some (.list xs)) (e2 : atI xs a = some x) (h : Q (.fr x) st) : gIx st v (.fr (.int a)) Q := by unfold gIx; rw [e1]; exact ⟨x, e2, h⟩
theorem s_ixT (e1 : pyO st v = some (.tuple xs)) (e2 : atI xs a = some x) (h : Q (.fr x) st) : gIx st v (.fr (.int a)) Q := by unfold gIx; rw [e1]; exact ⟨x, e2, h⟩
def TsK (d : Vl) (st' : List Vl) (Q : Bool → List Vl → Prop) : Prop := match d with
  | .fr (.bool b) => Q b st'
  | _ => False
theorem s_tst (h : ta st fun d st' => TsK d st' QB) : cTst ta st QB := h
theorem s_tstK (h : QB e st) : TsK (.fr (.bool e)) st QB := h
/-- a branch -/
def BR (b : Bool) (A B : Prop) : Prop := if b = true then A else B
theorem s_brT {A B : Prop} (h : A) : BR true A B := h
theorem s_brF {A B : Prop} (h : B) : BR false A B := h
theorem s_br {A B : Prop} {b : Bool} (h1 : b = true → A) (h2 : b = false → B) : BR b A B := by
  unfold BR
  cases b with
  | true => exact h1 rfl
  | false => exact h2 rfl
theorem s_brD {A B P : Prop} [Decidable P] (h1 : P → A) (h2 : ¬ P → B) : BR (decide P) A B := s_br (fun h => h1 (of_decide_eq_true h)) fun h => h2 (of_decide_eq_false h)
theorem s_brN {A B : Prop} {b : Bool} (h : BR b B A) : BR (!b) A B := by cases b <;> exact h
theorem s_brE {α : Type} {l : List α} {A B : Prop} (h1 : l = [] → A) (h2 : l ≠ [] → B) : BR l.isEmpty A B := s_br (fun h => h1 (List.isEmpty_iff.mp h)) fun h => h2 (fun e => by rw [e] at h; cases h)
theorem s_brEq {A B : Prop} {b c : Bool} (e : b = c) (h : BR c A B) : BR b A B := e ▸ h
theorem s_and (h : t st fun c st1 => BR c (u st1 QB) (QB false st1)) : cAnd t u st QB := h
theorem s_or (h : t st fun c st1 => BR c (QB true st1) (u st1 QB)) : cOr t u st QB := h
theorem s_not (h : t st fun c st1 => QB (!c) st1) : cNot t st QB := h
def AvK (tb : DT) (d : Vl) (st1 : List Vl) (Q : Vl → List Vl → Prop) : Prop := match d with
  | .fr (.bool c) => if c = true then tb st1 Q else Q (.fr (.bool false)) st1
  | _ => False
theorem s_andV (h : ta st fun d st1 => AvK tb d st1 Q) : cAndV ta tb st Q := h
theorem s_andVK (h : BR e (tb st Q) (Q (.fr (.bool false)) st)) : AvK tb (.fr (.bool e)) st Q := h
def OvK (tb : DT) (d : Vl) (st1 : List Vl) (Q : Vl → List Vl → Prop) : Prop := match d with
  | .fr (.bool c) => if c = true then Q (.fr (.bool true)) st1 else tb st1 Q
  | _ => False
theorem s_orV (h : ta st fun d st1 => OvK tb d st1 Q) : cOrV ta tb st Q := h
theorem s_orVK (h : BR e (Q (.fr (.bool true)) st) (tb st Q)) : OvK tb (.fr (.bool e)) st Q := h
theorem s_if (h : t st fun c st1 => BR c (ta st1 Q) (tb st1 Q)) : cIf t ta tb st Q := h
def ChK (p q : Int → Int → Bool) (tc : DT) (x y : Vl) (st2 : List Vl) (Q : Vl → List Vl → Prop) : Prop := match x, y with
  | .fr (.int i), .fr (.int j) => if p i j = true then tc st2 fun z st3 => (match z with | .fr (.int k) => Q (.fr (.bool (q j k))) st3 | _ => False) else Q (.fr (.bool false)) st2
  | _, _ => False
theorem s_ch {p q : Int → Int → Bool} (h : ta st fun x st1 => tb st1 fun y st2 => ChK p q tc x y st2 Q) : cCh p q ta tb tc st Q := h
def CiK (z : Vl) (st3 : List Vl) (q : Int → Bool) (Q : Vl → List Vl → Prop) : Prop := match z with | .fr (.int k) => Q (.fr (.bool (q k))) st3 | _ => False
theorem s_chK {p q : Int → Int → Bool} (h : BR (p a b) (tc st fun z st3 => CiK z st3 (q b) Q) (Q (.fr (.bool false)) st)) : ChK p q tc (.fr (.int a)) (.fr (.int b)) st Q := h
theorem s_ciK {q : Int → Bool} (h : Q (.fr (.bool (q a))) st) : CiK (.fr (.int a)) st q Q := h
theorem s_nil (h : QA [] st) : cNil st QA := h
theorem s_cons {tr : DTA} (h : ta st fun x st1 => tr st1 fun xs st2 => QA (x :: xs) st2) : cCons ta tr st QA := h
def TuK (ds : List Vl) (st' : List Vl) (Q : Vl → List Vl → Prop) : Prop := match DL.frs ds with
  | some xs => xs.length ≤ sizeLine ∧ Q (.fr (.tuple xs)) st'
  | none => False
theorem s_tup {tr : DTA} (h : tr st fun ds st' => TuK ds st' Q) : cTup tr st Q := h
theorem s_tupK {ds : List Vl} (e : DL.frs ds = some xs) (hz : xs.length ≤ 1000) (h : Q (.fr (.tuple xs)) st) : TuK ds st Q := by unfold TuK; rw [e]; exact ⟨small hz, h⟩
def LsK (ds : List Vl) (st' : List Vl) (Q : Vl → List Vl → Prop) : Prop := match DL.frs ds with
  | some xs => xs.length ≤ sizeLine ∧ Q (.ow xs) st'
  | none => False
theorem s_lst {tr : DTA} (h : tr st fun ds st' => LsK ds st' Q) : cLst tr st Q := h
theorem s_lstK {ds : List Vl} (e : DL.frs ds = some xs) (hz : xs.length ≤ 1000) (h : Q (.ow xs) st) : LsK ds st Q := by unfold LsK; rw [e]; exact ⟨small hz, h⟩
/-! calls -/
def UpK (ds' ds st : List Vl) (Q : List Vl → Prop) : Prop := Q (upds ds' 0 ds st)
theorem s_up {ds' ds : List Vl} {QT : List Vl → Prop} (e : upds ds' 0 ds st = st') (h : QT st') : UpK ds' ds st QT := by subst e; exact h
def ClK (lk : List Nat) (S : VSp) (ds st1 : List Vl) (Q : Vl → List Vl → Prop) : Prop := S (ds.map (res st1)) (fun r ds' => UpK ds' ds st1 (Q r)) fun _ _ => False
theorem s_call {lk : List Nat} {S : VSp} {tr : DTA} (h : tr st fun ds st1 => okB lk 0 ds = true ∧ ClK lk S ds st1 Q) : cCall lk S tr st Q := h
theorem s_fn {g : GF} {tr : DTA} (h : tr st fun ds st' => g st' ds fun d => Q d st') : cFn g tr st Q := h
theorem s_g1 {g : List Vl → Vl → (Vl → Prop) → Prop} {QF : Vl → Prop} (h : g st v QF) : g1 g st [v] QF := h
section
variable {QF : Vl → Prop}
theorem s_g2 {fn : Int → Int → Int} (h : QF (.fr (.int (fn a b)))) : g2I fn st [.fr (.int a), .fr (.int b)] QF := h
theorem s_lenL (e1 : pyO st v = some (.list xs)) (h : QF (.fr (.int xs.length))) : gLen st v QF := by unfold gLen; rw [e1]; exact h
theorem s_lenT (e1 : pyO st v = some (.tuple xs)) (h : QF (.fr (.int xs.length))) : gLen st v QF := by unfold gLen; rw [e1]; exact h
theorem s_abs (h : QF (.fr (.int (a.natAbs : Nat)))) : gAbs st (.fr (.int a)) QF := h
theorem s_lst2 (e1 : pyO st v = some (.tuple xs)) (h : QF (.ow xs)) : DL.gLst st v QF := by unfold DL.gLst; rw [e1]; exact h
theorem s_tpl1 (e1 : pyO st v = some (.list xs)) (h : QF (.fr (.tuple xs))) : gTpl st v QF := by unfold gTpl; rw [e1]; exact h
theorem s_bools {fn : List Bool → Bool} (bs : List Bool) (e1 : pyO st v = some (.list xs)) (e2 : xs = bs.map .bool) (h : QF (.fr (.bool (fn bs)))) : gBools fn st v QF := ⟨bs, by rw [e1, e2], h⟩
theorem s_srt (e1 : pyO st v = some (.list xs)) (h1 : PySem.W.AllAlike xs) (h2 : PySem.W.Sortable xs) (h3 : xs.all (dep 60) = true) (h : QF (.ow (xs.mergeSort (PySem.W.dataLe false id)))) : gSrt st v QF := by unfold gSrt; rw [e1]; exact ⟨h1, h2, h3, h⟩
end
section
variable {QF : Vl → Prop}
end
theorem s_ixI {f : Int → Prop} (e1 : pyO st v = some (.list xs)) (e2 : ∃ p, atI xs a = some (.int p) ∧ f p) (h : ∀ p, f p → Q (.fr (.int p)) st) : gIx st v (.fr (.int a)) Q := by
  obtain ⟨p, e, hp⟩ := e2
  exact s_ixL e1 e (h p hp)
/-! slices -/
theorem s_noP (h : QO none st) : cNoP st QO := h
def PtK (d : Vl) (st' : List Vl) (Q : Option Int → List Vl → Prop) : Prop := match d with
  | .fr (.int i) => Q (some i) st'
  | _ => False
theorem s_pt (h : ta st fun d st' => PtK d st' QO) : cPt ta st QO := h
theorem s_ptK (h : QO (some a) st) : PtK (.fr (.int a)) st QO := h
def SlK (d : Vl) (lo hi : Option Int) (st3 : List Vl) (Q : Vl → List Vl → Prop) : Prop := match pyO st3 d with
  | some (.list xs) => Q (.ow (cut xs lo hi)) st3
  | some (.tuple xs) => Q (.fr (.tuple (cut xs lo hi))) st3
  | some (.str x) => x.length ≤ sizeLine ∧ Q (.fr (.str (cutS x lo hi))) st3
  | _ => False
theorem s_sl {tl th : DTO} (h : ta st fun d st1 => tl st1 fun lo st2 => th st2 fun hi st3 => SlK d lo hi st3 Q) : cSl ta tl th st Q := h
theorem s_slL {lo hi : Option Int} (e1 : pyO st v = some (.list xs)) (h : Q (.ow (cut xs lo hi)) st) : SlK v lo hi st Q := by unfold SlK; rw [e1]; exact h
theorem s_slT {lo hi : Option Int} (e1 : pyO st v = some (.tuple xs)) (h : Q (.fr (.tuple (cut xs lo hi))) st) : SlK v lo hi st Q := by unfold SlK; rw [e1]; exact h
def RvK (d : Vl) (st1 : List Vl) (Q : Vl → List Vl → Prop) : Prop := match pyO st1 d with
  | some (.list xs) => Q (.ow xs.reverse) st1
  | some (.tuple xs) => Q (.fr (.tuple xs.reverse)) st1
  | _ => False
/-! methods -/
def MtK (g : GM) (tr : DTA) (d : Vl) (st1 : List Vl) (Q : Vl → List Vl → Prop) : Prop := match d with
  | .bor i => (∃ xs, st1[i]? = some (.ow xs)) ∧ tr st1 fun ds st2 => (match st2[i]?, DL.frs ds with
    | some (.ow xs), some ys => g xs ys fun zs y => Q (.fr y) (st2.set i (.ow zs))
    | _, _ => False)
  | _ => False
/-- an owned list is put back -/
def StK (i : Nat) (zs : List PyData) (st : List Vl) (Q : List Vl → Prop) : Prop := Q (st.set i (.ow zs))
theorem s_st {QT : List Vl → Prop} {zs : List PyData} (e : st.set i (.ow zs) = st') (h : QT st') : StK i zs st QT := by subst e; exact h
def M2K (g : GM) (i : Nat) (ds st2 : List Vl) (Q : Vl → List Vl → Prop) : Prop := match st2[i]?, DL.frs ds with
    | some (.ow xs), some ys => g xs ys fun zs y => Q (.fr y) (st2.set i (.ow zs))
    | _, _ => False
theorem s_mth {g : GM} {tr : DTA} (h : ta st fun d st1 => MtK g tr d st1 Q) : cMth' g ta tr st Q := h
theorem s_mthK {g : GM} {tr : DTA} (e : st[i]? = some (.ow xs)) (h : tr st fun ds st2 => M2K g i ds st2 Q) : MtK g tr (.bor i) st Q := ⟨⟨xs, e⟩, h⟩
theorem s_mth2 {g : GM} {ds : List Vl} (e : st[i]? = some (.ow xs)) (e2 : DL.frs ds = some ys) (h : g xs ys fun zs y => StK i zs st fun st' => Q (.fr y) st') : M2K g i ds st Q := by unfold M2K; rw [e, e2]; exact h
theorem s_app {R : List PyData → PyData → Prop} (hz : xs.length < sizeLine) (h : R (xs ++ [y]) .none) : gApp xs [y] R := ⟨hz, h⟩
/-! targets, statements -/
section
variable {QT : List Vl → Prop}
def isBo : Vl → Bool
  | .bor _ => true
  | _ => false
theorem nbor {d : Vl} (h : isBo d = false) : ∀ j, d ≠ .bor j := fun j e => by subst e; cases h
theorem s_nm (h1 : isBo d = false) (h2 : Nat.ble (i + 1) st.length = true) (e : st.set i d = st') (h : QT st') : gNm i d st QT := ⟨nbor h1, Nat.le_of_ble_eq_true h2, e ▸ h⟩
theorem s_nmI {n : Int} (P : Int → Prop) (h2 : Nat.ble (i + 1) st.length = true) (hp : P n) (h : ∀ m, P m → QT (st.set i (.fr (.int m)))) : gNm i (.fr (.int n)) st QT := s_nm rfl h2 rfl (h n hp)
def SbK (o i d : Vl) (st2 : List Vl) (Q : List Vl → Prop) : Prop := match o, i, d with
  | .bor s, .fr (.int k), .fr y => (match st2[s]? with
    | some (.ow xs) => ∃ j, ixN xs.length k = some j ∧ Q (st2.set s (.ow (xs.set j y)))
    | _ => False)
  | _, _, _ => False
theorem s_sub (h : ta st fun o st1 => tb st1 fun i st2 => SbK o i d st2 QT) : DL.gSub ta tb d st QT := h
theorem s_subK {zs : List PyData} (e : st[i]? = some (.ow xs)) (e2 : ixN xs.length a = some j) (e3 : xs.set j y = zs) (e4 : st.set i (.ow zs) = st') (h : QT st') : SbK (.bor i) (.fr (.int a)) (.fr y) st QT := by
  subst e3 e4
  show (match st[i]? with
    | some (.ow xs) => ∃ j, ixN xs.length a = some j ∧ QT (st.set i (.ow (xs.set j y)))
    | _ => False)
  rw [e]; exact ⟨j, e2, h⟩
theorem s_tu {n : Nat} {gs : DTGs} (e : xs.length = n) (h : gs xs st QT) : gTu n gs (.fr (.tuple xs)) st QT := ⟨e, h⟩
theorem s_gsn (h : QT st) : gsNil [] st QT := ⟨rfl, h⟩
theorem s_gsc {g : DTG} {gs : DTGs} (h : g (.fr x) st fun st' => gs xs st' QT) : gsCons g gs (x :: xs) st QT := h
end
theorem s_next (h : D.nx st) : cNext D st := h
theorem s_seq {t u : DTS} (h : t { D with nx := u D } st) : cSeq t u D st := h
/-- both ways of t lead to I -/
theorem s_seqCut {t u : DTS} (I : List Vl → Prop) (h1 : ∀ K : List Vl → Prop, (∀ st', I st' → K st') → t { D with nx := K } st) (h2 : ∀ st', I st' → u D st') : cSeq t u D st := h1 _ h2
theorem s_drop (h : ta st fun _ st' => D.nx st') : cDrop ta D st := h
theorem s_ret (h : ta st fun d st' => (∀ i, d ≠ .bor i) ∧ D.rt d st') : cRet ta D st := h
theorem s_ifS {c : DTT} {t u : DTS} (h : c st fun b st1 => BR b (t D st1) (u D st1)) : cIfS c t u D st := h
theorem s_asg {g : DTG} (h : ta st fun d st' => g d st' D.nx) : cAsg ta g D st := h
def PaK (i j : Nat) (D : DEnds) (ds st' : List Vl) : Prop := match ds with
  | [x, y] => (∀ k, x ≠ .bor k) ∧ (∀ k, y ≠ .bor k) ∧ i < st'.length ∧ j < st'.length ∧ D.nx ((st'.set j y).set i x)
  | _ => False
theorem s_par {tr : DTA} (h : tr st fun ds st' => PaK i j D ds st') : cPar i j tr D st := h
theorem s_parK (h1 : isBo v = false) (h2 : isBo w = false) (h3 : Nat.ble (i + 1) st.length = true) (h4 : Nat.ble (j + 1) st.length = true) (e : (st.set j w).set i v = st') (h : D.nx st') : PaK i j D [v, w] st := ⟨nbor h1, nbor h2, Nat.le_of_ble_eq_true h3, Nat.le_of_ble_eq_true h4, e ▸ h⟩
/-! what is walked -/
abbrev QIt := List PyData → List Vl → (List Vl → Prop) → List Vl → Prop
variable {QI : QIt}
def SqK (d : Vl) (st' : List Vl) (Q : QIt) : Prop := match d with
  | .ow ds => Q ds [.fr (.list ds)] (fun _ => True) st'
  | .fr (.list ds) => Q ds [d] (fun _ => True) st'
  | .fr (.tuple ds) => Q ds [d] (fun _ => True) st'
  | .scr ns => Q (ns.map .int) [d] (fun _ => True) st'
  | .bor i => (match st'[i]? with
    | some (.ow ds) => Q ds [d] (fun st => st[i]? = some (.ow ds)) st'
    | _ => False)
  | _ => False
theorem s_seqI (h : ta st fun d st' => SqK d st' QI) : cSeqI ta st QI := h
theorem s_sqO (h : QI xs [.fr (.list xs)] (fun _ => True) st) : SqK (.ow xs) st QI := h
theorem s_sqL (h : QI xs [.fr (.list xs)] (fun _ => True) st) : SqK (.fr (.list xs)) st QI := h
theorem s_sqT (h : QI xs [.fr (.tuple xs)] (fun _ => True) st) : SqK (.fr (.tuple xs)) st QI := h
def R1K (ds st' : List Vl) (Q : QIt) : Prop := match ds with
  | [.fr (.int j)] => -(2 ^ 62) ≤ j ∧ j < 2 ^ 62 ∧ Q (rng 0 j) [] (fun _ => True) st'
  | _ => False
theorem s_rng1 {tr : DTA} (h : tr st fun ds st' => R1K ds st' QI) : cRng1 tr st QI := h
theorem s_rng1K (h1 : -(2 ^ 62) ≤ a) (h2 : a < 2 ^ 62) (h : QI (rng 0 a) [] (fun _ => True) st) : R1K [.fr (.int a)] st QI := ⟨h1, h2, h⟩
def EnK (ds st' : List Vl) (Q : QIt) : Prop := match ds with
  | [d] => (match pyO st' d with
    | some x => (match itemsD x with
      | some xs => Q (enumD 0 xs) [d] (fun st => pyO st d = some x) st'
      | _ => False)
    | _ => False)
  | _ => False
theorem s_enum {tr : DTA} (h : tr st fun ds st' => EnK ds st' QI) : cEnum tr st QI := h
theorem s_enumK (e1 : pyO st v = some x) (e2 : itemsD x = some xs) (h : QI (enumD 0 xs) [v] (fun st => pyO st v = some x) st) : EnK [v] st QI := by
  show (match pyO st v with
    | some x => (match itemsD x with
      | some xs => QI (enumD 0 xs) [v] (fun st => pyO st v = some x) st
      | _ => False)
    | _ => False)
  rw [e1]; dsimp only; rw [e2]; exact h
def ZpK (ds st' : List Vl) (Q : QIt) : Prop := match ds with
  | [d, d2] => (match pyO st' d, pyO st' d2 with
    | some x, some y => (match itemsD x, itemsD y with
      | some xs, some ys => Q (zip2D xs ys) [d2, d] (fun st => pyO st d = some x ∧ pyO st d2 = some y) st'
      | _, _ => False)
    | _, _ => False)
  | _ => False
theorem s_zip {tr : DTA} (h : tr st fun ds st' => ZpK ds st' QI) : cZip2 tr st QI := h
theorem s_zipK (e1 : pyO st v = some x) (e2 : pyO st w = some y) (e3 : itemsD x = some xs) (e4 : itemsD y = some ys) (h : QI (zip2D xs ys) [w, v] (fun st => pyO st v = some x ∧ pyO st w = some y) st) : ZpK [v, w] st QI := by
  show (match pyO st v, pyO st w with
    | some x, some y => (match itemsD x, itemsD y with
      | some xs, some ys => QI (zip2D xs ys) [w, v] (fun st => pyO st v = some x ∧ pyO st w = some y) st
      | _, _ => False)
    | _, _ => False)
  rw [e1, e2]; dsimp only; rw [e3, e4]; exact h
/-! loops: what is left to be told -/
def LcK (ws : List Nat) (items : List PyData) (cond : List Vl → Prop) (g : DTG) (tt : DTT) (te : DT) (st1 : List Vl) (Q : Vl → List Vl → Prop) : Prop :=
  cond (wipeD ws st1) ∧ lcGo ws cond g tt te (fun acc st' => Q (.ow acc) (rst st1 ws st')) items [] (wipeD ws st1)
theorem s_lc {lx ws : List Nat} {ti : DTI} {g : DTG} {tt : DTT} {te : DT} (h : ti st fun items src cond st1 => srcOk lx src = true ∧ frozenAt st1 ws = true ∧ LcK ws items cond g tt te st1 Q) : cLc lx ws ti g tt te st Q := h
def FoK (items : List PyData) (cond : List Vl → Prop) (g : DTG) (tb : DTS) (D : DEnds) (st1 : List Vl) : Prop := cond st1 ∧ forGo cond g tb D items st1
theorem s_for {lx : List Nat} {ti : DTI} {g : DTG} {tb : DTS} (h : ti st fun items src cond st1 => srcOk lx src = true ∧ FoK items cond g tb D st1) : cFor lx ti g tb D st := h
theorem s_lcMap {α : Type} {ws : List Nat} {items : List PyData} {cond : List Vl → Prop} {g : DTG} {tt : DTT} {te : DT} {st1 st2 st3 : List Vl} (l : List α) (enc : α → PyData) (r : α → Option PyData) (hi : items = l.map enc) (ew : wipeD ws st1 = st2) (er : rst st1 ws st2 = st3) (hc : cond st2) (hl : l.length ≤ sizeLine)
    (step : ∀ a ∈ l, ∀ K : Option PyData → List Vl → Prop, K (r a) st2 → lcTurn ws g tt te (enc a) st2 K) (q : Q (.ow (l.filterMap r)) st3) : LcK ws items cond g tt te st1 Q := by
  subst ew er
  exact ⟨hc, lc_map l enc r hi hc hl step q⟩
def RsK (st1 : List Vl) (ws : List Nat) (st : List Vl) (Q : List Vl → Prop) : Prop := Q (rst st1 ws st)
theorem s_rs {st1 : List Vl} {ws : List Nat} {QT : List Vl → Prop} (e : rst st1 ws st = st') (h : QT st') : RsK st1 ws st QT := by subst e; exact h
theorem s_lcInv {α : Type} {ws : List Nat} {items : List PyData} {cond : List Vl → Prop} {g : DTG} {tt : DTT} {te : DT} {st1 st2 : List Vl} (l : List α) (enc : α → PyData) (I : List α → List PyData → List Vl → Prop) (hi : items = l.map enc) (ew : wipeD ws st1 = st2) (hc : cond st2) (hl : l.length ≤ sizeLine) (h0 : I l [] st2)
    (step : ∀ a l' acc st, I (a :: l') acc st → ∀ K : Option PyData → List Vl → Prop, (∀ o st', I l' (acc ++ o.toList) st' → cond st' → K o st') → lcTurn ws g tt te (enc a) st K) (fin : ∀ acc st, I [] acc st → RsK st1 ws st (Q (.ow acc))) : LcK ws items cond g tt te st1 Q := by
  subst ew hi
  refine ⟨hc, ?_⟩
  have key : ∀ (l : List α) (n : Nat) (acc : List PyData) (st : List Vl), n + l.length ≤ sizeLine → acc.length ≤ n → I l acc st → lcGo ws cond g tt te (fun acc st' => Q (.ow acc) (rst st1 ws st')) (l.map enc) acc st := by
    intro l
    induction l with
    | nil => intro n acc st _ _ h; exact fin acc st h
    | cons a l ih =>
      intro n acc st hl hn h
      rw [List.length_cons] at hl
      rw [List.map_cons, lcGo]
      refine step a l acc st h (fun o st' => match o with
        | some z => acc.length < sizeLine ∧ cond st' ∧ lcGo ws cond g tt te (fun acc st' => Q (.ow acc) (rst st1 ws st')) (l.map enc) (acc ++ [z]) st'
        | none => cond st' ∧ lcGo ws cond g tt te (fun acc st' => Q (.ow acc) (rst st1 ws st')) (l.map enc) acc st') fun o st' hI hc => ?_
      cases o with
      | none => exact ⟨hc, ih n acc st' (by omega) hn (by simpa using hI)⟩
      | some z => exact ⟨by omega, hc, ih (n + 1) (acc ++ [z]) st' (by omega) (by rw [List.length_append, List.length_singleton]; omega) hI⟩
  exact key l 0 [] _ (by simpa using hl) (Nat.le_refl _) h0
theorem s_forMap {α : Type} {items : List PyData} {cond : List Vl → Prop} {g : DTG} {tb : DTS} (l : List α) (enc : α → PyData) (I : List α → List Vl → Prop) (hi : items = l.map enc) (hc : cond st) (h : I l st)
    (step : ∀ a l' st, I (a :: l') st → ∀ K : List Vl → Prop, (∀ st', I l' st' → cond st' → K st') → g (.fr (enc a)) st fun st2 => tb { D with nx := K, ct := K, bk := D.nx } st2)
    (fin : ∀ st, I [] st → D.nx st) : FoK items cond g tb D st := ⟨hc, for_map l enc I hi h step fin⟩
theorem s_yes (h : QB true st) : cYes st QB := h
def EtK (ws : List Nat) (K : Option PyData → List Vl → Prop) (y : Vl) (st4 : List Vl) : Prop := match y with
  | .fr z => K (some z) (wipeD ws st4)
  | _ => False
theorem s_turn {ws : List Nat} {g : DTG} {tt : DTT} {te : DT} {K : Option PyData → List Vl → Prop} (h : g (.fr x) st fun st2 => tt st2 fun b st3 => BR b (te st3 fun y st4 => EtK ws K y st4) (K none (wipeD ws st3))) : lcTurn ws g tt te x st K := h
theorem s_et {ws : List Nat} {K : Option PyData → List Vl → Prop} (h : K (some x) (wipeD ws st)) : EtK ws K (.fr x) st := h
theorem s_clk {lk : List Nat} {S : VSp} {ds : List Vl} (e : okB lk 0 ds = true) (h : ClK lk S ds st Q) : okB lk 0 ds = true ∧ ClK lk S ds st Q := ⟨e, h⟩
theorem s_src {lx : List Nat} {src : List Vl} {A : Prop} (e : srcOk lx src = true) (h : A) : srcOk lx src = true ∧ A := ⟨e, h⟩
theorem s_frz2 {ws : List Nat} {A : Prop} (e : frozenAt st ws = true) (h : A) : frozenAt st ws = true ∧ A := ⟨e, h⟩
theorem s_rt {A : Prop} (e : isBo d = false) (h : A) : (∀ i, d ≠ .bor i) ∧ A := ⟨nbor e, h⟩
end
end DL

/-! The plain words of the program and of the laws, and small facts that readings share. -/
namespace DL
open PySem PySem.Spec PyProof.Rows L2
def isover (xs ys : List Int) : Bool := (xs.zip ys).all fun p => decide (p.2 ≤ p.1)
def beats (xs ys : List Int) : Bool := decide (xs ≠ ys) && isover xs ys
def nums (l : List Nat) : List Int := l.map fun (n : Nat) => (n : Int)
def Pts (ps : List (List Int)) : Prop := ps.length ≤ 1000 ∧ ∀ p ∈ ps, p.length ≤ 10
theorem fmap_some {α β : Type} (f : α → β) (l : List α) : l.filterMap (fun x => some (f x)) = l.map f := by induction l <;> simp_all
theorem fmap_if {α β : Type} (c : α → Bool) (f : α → β) (l : List α) : l.filterMap (fun x => if c x = true then some (f x) else none) = (l.filter c).map f := by
  induction l with
  | nil => rfl
  | cons x l ih => cases h : c x <;> simp [h, ih]
abbrev Pr (p : Int) : Prop := 2 ^ 30 < p ∧ p < 2 ^ 31
theorem modb {x p : Int} (h : 0 < p) : 0 ≤ x % p ∧ x % p < p := ⟨Int.emod_nonneg _ (by omega), Int.emod_lt_of_pos _ h⟩
theorem rngN (n : Nat) : rng 0 (n : Int) = (List.range n).map fun (i : Nat) => .int (i : Int) := rng0 n
/-- a pot from which at most n things were taken -/
def Pot (n : Nat) (l : List PyData) : Prop := ∃ a b c : Int, l = [.int a, .int b, .int c] ∧ 0 ≤ a ∧ 0 ≤ b ∧ b < 2 ^ 63 ∧ 0 ≤ c ∧ c ≤ n
theorem Pot.mono {n m : Nat} {v : List PyData} (h : Pot n v) (l : n ≤ m) : Pot m v := by
  obtain ⟨a, b, c, e, h1, h2, h3, h4, h5⟩ := h
  exact ⟨a, b, c, e, h1, h2, h3, h4, by omega⟩
end DL

/-! isinstance of a def: none of the kinds of data. The rows follow the library's own facts of other kinds. -/
namespace DL
namespace FnF
open PySem
open PySem.Sem (wp)
section
variable {prog : Program} {w : World} {A : Around} {E : Value → Shared → Prop} {h : Heap} {g : Array GenState} {d : Drawn} {t : Nat} {os : OsState} {a : Addr} {o : Obj}
end
def kinds : List String := ["int", "bool", "str", "tuple", "list", "dict"]
end FnF
end DL
/-! The data layer, part 16: what is never reached; isinstance, int(..), list(range(..)), more methods. -/
namespace DL
open PySem PySem.Spec PyProof.Rows L2
/-! ### what is never reached -/
section
variable {X : Cx} {B : Ba} {lk : List Nat} {a b e e2 : Expr} {es : List Expr} {te ta tb : DT} {t : DTA} {p pos : Pos} {s : Stmt}
/-! ### isinstance -/
/-! ### list(range(..)), tuple(range(..)) -/
def LRg (K : PySem.W.Frag) (B : Ba) (lk : List Nat) (t : List Vl → (Int → Int → List Vl → Prop) → Prop) : L2.St → Hp → (Int → Int → Hp → Prop) → Prop := fun σ H Q => ∃ lv st tm tv Q0, Lk B lv lk ∧ Rel K B lv st tm σ tv H ∧ t st Q0 ∧ ∀ i j st' H', Q0 i j st' → Rel K B lv st' tm σ tv H' → Q i j H'
abbrev DRg (X : Cx) (B : Ba) (lk : List Nat) (e : Expr) (t : List Vl → (Int → Int → List Vl → Prop) → Prop) : Prop := PRg X e (LRg X.K B lk t)
theorem PRg.weak {t t' : L2.St → Hp → (Int → Int → Hp → Prop) → Prop} (h : PRg X e t) (i : ∀ σ H Q, t' σ H Q → t σ H Q) : PRg X e t' := fun pins s σ H Q I q => h pins s σ H Q I (i σ H Q q)
def cRgA (ta : DT) : List Vl → (Int → Int → List Vl → Prop) → Prop := fun st Q => ta st fun d st1 => match d with
  | .fr (.int j) => Q 0 j st1
  | _ => False
theorem dr_1 (hg : Gl X "range") (hm : X.mg "range" = none) (ha : DE X B lk a ta) (na : starEach [a] X.env = (false, eval a X.env) :: starEach [] X.env := by rfl) : DRg X B lk (.Call (.Name "range" p) [a] [] pos) (cRgA ta) :=
  PRg.weak (prg_1 hg hm ha na) fun σ H Q ⟨lv, st, tm, tv, Q0, L, R, h, k⟩ => by
    refine ⟨lv, st, tm, tv, _, L, R, h, fun d st' v H' q R' => ?_⟩
    split at q
    · obtain rfl := R'.isInt
      exact ⟨_, rfl, k _ _ _ _ q R'.pop⟩
    · exact q.elim
theorem rgV_rp {K : PySem.W.Frag} {F : Addr → Prop} {H : Hp} (i j : Int) : RpA K F H (rgV i j) (rng i j) := by
  have e1 : rgV i j = ((List.range (j - i).toNat).map fun (k : Nat) => i + (k : Int)).map V.int := by unfold rgV; rw [List.map_map]; rfl
  have e2 : rng i j = ((List.range (j - i).toNat).map fun (k : Nat) => i + (k : Int)).map PyData.int := by unfold rng; rw [List.map_map]; rfl
  rw [e1, e2]
  exact RpA.ofInts _
def cLsR (t : List Vl → (Int → Int → List Vl → Prop) → Prop) : DT := fun st Q => t st fun i j st' => RgOk i j ∧ Q (.ow (rng i j)) st'
def cTuR (t : List Vl → (Int → Int → List Vl → Prop) → Prop) : DT := fun st Q => t st fun i j st' => RgOk i j ∧ Q (.fr (.tuple (rng i j))) st'
theorem de_listR {tr : List Vl → (Int → Int → List Vl → Prop) → Prop} (hc : X.calm = true) (hg : Gl X "list") (hm : X.mg "list" = none) (he : DRg X B lk e tr) (na : starEach [e] X.env = (false, eval e X.env) :: starEach [] X.env := by rfl) : DE X B lk (.Call (.Name "list" p) [e] [] pos) (cLsR tr) :=
  PE.weak (pe_listRg hc hg hm he na) fun σ H Q ⟨lv, st, tm, tv, Q0, L, R, h, k⟩ => ⟨lv, st, tm, tv, _, L, R, h, fun i j st' H' q R' => ⟨q.1, fun a ha => by
    obtain ⟨F, O, R2⟩ := R'
    exact k _ _ _ _ q.2 ⟨F, _, R2.newLst ha (rgV_rp i j)⟩⟩⟩
theorem de_tupR {tr : List Vl → (Int → Int → List Vl → Prop) → Prop} (hc : X.calm = true) (hg : Gl X "tuple") (hm : X.mg "tuple" = none) (he : DRg X B lk e tr) (na : starEach [e] X.env = (false, eval e X.env) :: starEach [] X.env := by rfl) : DE X B lk (.Call (.Name "tuple" p) [e] [] pos) (cTuR tr) :=
  PE.weak (pe_tupRg hc hg hm he na) fun σ H Q ⟨lv, st, tm, tv, Q0, L, R, h, k⟩ => ⟨lv, st, tm, tv, _, L, R, h, fun i j st' H' q R' => ⟨q.1, fun a ha => by
    obtain ⟨F, O, R2⟩ := R'
    exact k _ _ _ _ q.2 ⟨F, _, R2.newTup ha (rgV_rp i j)⟩⟩⟩

/-! ### pop, extend, clear, reverse -/
variable {o : Expr} {to : DT} {apos cpos : Pos}
end
end DL

/-! The data layer, part 17: int(..), max and min of a list, the steps of part 16. -/
namespace DL
open PySem PySem.Spec PyProof.Rows L2
section
variable {X : Cx} {B : Ba} {lk : List Nat} {a b e e2 : Expr} {es : List Expr} {te ta tb : DT} {t : DTA} {p pos : Pos}
def gInt : List Vl → Vl → (Vl → Prop) → Prop := fun st d Q => match d with
  | .fr (.int i) => Q (.fr (.int i))
  | .fr (.bool b) => Q (.fr (.int (if b then 1 else 0)))
  | .fr (.str z) => ∃ n, PySem.intText? z = some n ∧ z.length ≤ 640 ∧ Q (.fr (.int n))
  | _ => False
theorem call_int2 : CallR X (.type "int") (fun xs H Q => ((∃ i, xs = [.int i] ∧ Q (.int i) H) ∨ ∃ k, xs = [.bl k] ∧ Q (.int (if k then 1 else 0)) H) ∨ ∃ a n, xs = [.str a] ∧ PySem.intText? a = some n ∧ a.length ≤ 640 ∧ Q (.int n) H) := by
  intro pins s σ H xs us Q I r h
  rcases h with h | h
  · exact call_int1 pins s σ H xs us Q I r h
  · exact call_int_str pins s σ H xs us Q I r h
theorem gInt_ok {K : PySem.W.Frag} : F1Ok K B gInt (fun xs H Q => ((∃ i, xs = [.int i] ∧ Q (.int i) H) ∨ ∃ k, xs = [.bl k] ∧ Q (.int (if k then 1 else 0)) H) ∨ ∃ a n, xs = [.str a] ∧ PySem.intText? a = some n ∧ a.length ≤ 640 ∧ Q (.int n) H) := fun lv st tm σ tv H d v Q0 Q F O R q k => by
  unfold gInt at q
  split at q
  · rename_i i
    obtain rfl := (R.scal (x := .int i) rfl).2.2.1 i rfl
    exact .inl (.inl ⟨i, rfl, k _ _ _ q ⟨F, O, R.pop.push (d := .fr (.int _)) (.int _)⟩⟩)
  · rename_i b
    obtain rfl := (R.scal (x := .bool b) rfl).2.1 b rfl
    exact .inl (.inr ⟨b, rfl, k _ _ _ q ⟨F, O, R.pop.push (d := .fr (.int _)) (.int _)⟩⟩)
  · rename_i z
    obtain rfl := (R.scal (x := .str z) rfl).2.2.2 z rfl
    obtain ⟨n, h1, h2, q⟩ := q
    exact .inr ⟨z, n, rfl, h1, h2, k _ _ _ q ⟨F, O, R.pop.push (d := .fr (.int _)) (.int _)⟩⟩
  · exact q.elim
theorem de_intF (hg : Gl X "int") (hm : X.mg "int" = none) (ha : DA X B lk (e :: es) t) (he : starEach (e :: es) X.env = (false, eval e X.env) :: starEach es X.env := by rfl) (hpl : (backTo pos (starEach es X.env)).any (·.1) = false := by rfl) :
    DE X B lk (.Call (.Name "int" p) (e :: es) [] pos) (cFn (g1 gInt) t) := de_fnT call_int2 gInt_ok.ok hg hm boot_int ha (he := he) (hpl := hpl)
end
/-! ### steps -/
section
variable {st st' : List Vl} {Q : Vl → List Vl → Prop} {QF : Vl → Prop} {i j : Nat} {m n : Int} {x y : PyData} {xs ys : List PyData} {ta tb : DT} {v w : Vl}
theorem s_intB {b : Bool} (h : QF (.fr (.int (if b then 1 else 0)))) : gInt st (.fr (.bool b)) QF := h
abbrev QR := Int → Int → List Vl → Prop
variable {R : QR}
def RaK (d : Vl) (st1 : List Vl) (Q : QR) : Prop := match d with
  | .fr (.int j) => Q 0 j st1
  | _ => False
theorem s_rgA (h : ta st fun d st1 => RaK d st1 R) : cRgA ta st R := h
theorem s_raK (h : R 0 m st) : RaK (.fr (.int m)) st R := h
theorem s_lsR {t : List Vl → QR → Prop} (h : t st fun i j st' => RgOk i j ∧ Q (.ow (rng i j)) st') : cLsR t st Q := h
theorem s_tuR {t : List Vl → QR → Prop} (h : t st fun i j st' => RgOk i j ∧ Q (.fr (.tuple (rng i j))) st') : cTuR t st Q := h
theorem s_rgk {A : Prop} (h : RgOk m n) (a : A) : RgOk m n ∧ A := ⟨h, a⟩
end
end DL

/-! More plain words. -/
namespace DL
open PySem PySem.Spec PyProof.Rows L2
section
variable {st : List Vl} {Q : Vl → List Vl → Prop} {v : Vl} {a : Int} {xs : List PyData}
theorem s_while {c : DTT} {tb : DTS} {D : DEnds} (I : Nat → List Vl → Prop) (n : Nat) (h : I n st)
    (turn : ∀ m st, I m st → c st fun b st1 => BR b (tb { D with nx := fun st' => ∃ m', m' < m ∧ I m' st', ct := fun st' => ∃ m', m' < m ∧ I m' st', bk := D.nx } st1) (D.nx st1)) : cWhile c tb D st := while_inv I n h turn
theorem s_ixD {f : PyData → Prop} (e1 : pyO st v = some (.list xs)) (e2 : ∃ p, atI xs a = some p ∧ f p) (h : ∀ p, f p → Q (.fr p) st) : gIx st v (.fr (.int a)) Q := by
  obtain ⟨p, e, hp⟩ := e2
  exact s_ixL e1 e (h p hp)
theorem atI_allD {P : PyData → Prop} {xs : List PyData} {i : Int} (h0 : 0 ≤ i) (h : i < xs.length) (hp : ∀ d ∈ xs, P d) : ∃ p, atI xs i = some p ∧ P p := by
  rw [atI_int h0 h]
  have hl : i.toNat < xs.length := by omega
  exact ⟨_, List.getElem?_eq_getElem hl, hp _ (List.getElem_mem hl)⟩
end
end DL

/-! is True, is not True of a truth. -/
namespace DL
open PySem PySem.Spec PyProof.Rows L2
section
variable {X : Cx} {B : Ba} {K : PySem.W.Frag} {lk : List Nat} {a b : Expr} {ta tb : DT} {pos : Pos}
end
end DL

/-! Layers: how many the longest row of beating has ahead of a number; peeled fronts. Plain words. -/
namespace DL
open PySem PySem.Spec PyProof.Rows L2
def bt (ps : List (List Int)) (j i : Nat) : Bool := beats (ps.getD j []) (ps.getD i [])
def sup (P : Nat → Bool) (g : Nat → Nat) : List Nat → Nat
  | [] => 0
  | x :: l => if P x = true then max (g x) (sup P g l) else sup P g l
section
variable {P P' : Nat → Bool} {g g' : Nat → Nat}
end
def layF (ps : List (List Int)) : Nat → Nat → Nat
  | 0, _ => 0
  | f + 1, i => sup (fun j => bt ps j i) (fun j => layF ps f j + 1) (List.range ps.length)
def lay (ps : List (List Int)) (i : Nat) : Nat := layF ps ps.length i
theorem getD_mem {ps : List (List Int)} {i : Nat} (h : i < ps.length) : ps.getD i [] ∈ ps := by
  rw [List.getD_eq_getElem?_getD, List.getElem?_eq_getElem h]
  exact List.getElem_mem h
section
variable {ps : List (List Int)}
/-- what is left behind k times -/
def left (ps : List (List Int)) (k : Nat) : List Nat := (List.range ps.length).filter fun i => decide (k ≤ lay ps i)
/-- how many fronts there are -/
def fronts (ps : List (List Int)) : Nat := sup (fun _ => true) (fun i => lay ps i + 1) (List.range ps.length)
end
end DL

/-! sum of a list or a tuple. -/
namespace DL
open PySem PySem.Spec PyProof.Rows L2
section
variable {X : Cx} {B : Ba} {K : PySem.W.Frag} {lk : List Nat} {e : Expr} {es : List Expr} {t : DTA} {p pos : Pos}
theorem sumT_raw {prog : Program} {w : World} {A : Around} {E : Value → Shared → Prop} {s : Shared} {a : Addr} {its : List Value} {ns : List Int} {Q : Value → Shared → Prop} (hh : A.handled = none) (hl : IsTup s.heap a its.toArray) (hi : IntsAre its ns)
    (h : ∀ h' tk t', (∀ b o, s.heap.get? b = some o → h'.get? b = some o) → Q (.int ns.sum t') { s with heap := h', toks := tk }) : wpAny (model prog w) A (call (.builtin "sum") [.ref a]) Q E s := by
  obtain ⟨xs, e⟩ := hi.allInts.items
  have hn : numsOf (intItems xs).toList = ns := by rw [← e]; exact hi.numsOf
  rw [nums_intItems] at hn
  rw [e] at hl
  refine PySem.W.ktm_sumG hh hl fun h' tk t' hk => ?_
  have := h h' tk t' hk
  rw [preSum_eq, List.take_of_length_le (by simp), hn]; exact this
def rSumA (K : PySem.W.Frag) : List V → Hp → VK → Prop := fun vs H Q => ∃ (a : Addr) (ns : List Int), vs = [V.ref a] ∧ (SqL K H a (ns.map V.int) ∨ SqT K H a (ns.map V.int)) ∧ Q (.int ns.sum) H
theorem cr_sumA (hc : X.calm = true) : CallR X (.builtin "sum") (rSumA X.K) := by
  intro pins s σ H vs us Q I r h
  obtain ⟨a, ns, rfl, hs, q⟩ := h
  rw [Vals.ref1 r]
  rcases hs with hs | hs
  · obtain ⟨its, rv, hl, _⟩ := I.list hs
    exact sum_raw (I.ok.hd hc) hl.isList rv.ints fun h' tk t' hk => ⟨.int _, H, I.kept hk, ⟨_, rfl⟩, q⟩
  · obtain ⟨its, rv, hl, _⟩ := I.tuple hs
    exact sumT_raw (I.ok.hd hc) hl rv.ints fun h' tk t' hk => ⟨.int _, H, I.kept hk, ⟨_, rfl⟩, q⟩
def gSumA : List Vl → Vl → (Vl → Prop) → Prop := fun st d Q => match pyO st d with
  | some (.list xs) => ∃ ns : List Int, xs = ns.map .int ∧ Q (.fr (.int ns.sum))
  | some (.tuple xs) => ∃ ns : List Int, xs = ns.map .int ∧ Q (.fr (.int ns.sum))
  | _ => False
theorem gSumA_ok : F1Ok K B gSumA (rSumA K) := fun lv st tm σ tv H d v Q0 Q F O R q k => by
  unfold gSumA at q
  split at q
  · rename_i xs e
    obtain ⟨ns, rfl, q⟩ := q
    obtain ⟨a, vs, rfl, h, r⟩ := R.lst e
    obtain rfl := r.ints
    exact ⟨a, ns, rfl, .inl h, k _ _ _ q ⟨F, O, R.pop.push (d := .fr (.int _)) (.int _)⟩⟩
  · rename_i xs e
    obtain ⟨ns, rfl, q⟩ := q
    obtain ⟨a, vs, rfl, h, r⟩ := R.tup e
    obtain rfl := r.ints
    exact ⟨a, ns, rfl, .inr h, k _ _ _ q ⟨F, O, R.pop.push (d := .fr (.int _)) (.int _)⟩⟩
  · exact q.elim
theorem de_sumA (hc : X.calm = true) (hg : Gl X "sum") (hm : X.mg "sum" = none) (ha : DA X B lk (e :: es) t) (he : starEach (e :: es) X.env = (false, eval e X.env) :: starEach es X.env := by rfl) (hpl : (backTo pos (starEach es X.env)).any (·.1) = false := by rfl) :
    DE X B lk (.Call (.Name "sum" p) (e :: es) [] pos) (cFn (g1 gSumA) t) := de_fnB (cr_sumA hc) gSumA_ok.ok hg hm boot_sum ha (he := he) (hpl := hpl)
end
section
variable {st : List Vl} {v : Vl} {xs : List PyData} {QF : Vl → Prop}
theorem s_sumL (ns : List Int) (e1 : pyO st v = some (.list xs)) (e2 : xs = ns.map .int) (h : QF (.fr (.int ns.sum))) : gSumA st v QF := by unfold gSumA; rw [e1]; exact ⟨ns, e2, h⟩
end
end DL

/-! Numbers by the sums of their points; lists of numbers told by a word. -/
namespace DL
open PySem PySem.Spec PyProof.Rows L2
theorem ptsAt {ps : List (List Int)} {i : Nat} (h : i < ps.length) : atI (ps.map pt) (i : Int) = some (pt (ps.getD i [])) := by
  apply atI_ok
  rw [List.getElem?_map, List.getD_eq_getElem?_getD, List.getElem?_eq_getElem h]
  rfl
end DL

/-! A list times a number. -/
namespace DL
open PySem PySem.Spec PyProof.Rows L2
section
variable {X : Cx} {B : Ba} {K : PySem.W.Frag} {lk : List Nat} {a b : Expr} {ta tb : DT} {pos : Pos}
theorem RpA.rep {F : Addr → Prop} {H : Hp} {vs : List V} {ds : List PyData} (r : RpA K F H vs ds) : ∀ k : Nat, RpA K F H (List.replicate k vs).flatten (List.replicate k ds).flatten
  | 0 => .nil
  | k + 1 => by
    rw [List.replicate_succ, List.replicate_succ, List.flatten_cons, List.flatten_cons]
    exact r.append (RpA.rep r k)
end
section
variable {st : List Vl} {v w : Vl} {xs : List PyData} {Q : Vl → List Vl → Prop} {k : Int}
theorem flat_one {α : Type} (d : α) : ∀ n : Nat, (List.replicate n [d]).flatten = List.replicate n d
  | 0 => rfl
  | n + 1 => by rw [List.replicate_succ, List.flatten_cons, flat_one d n]; rfl
end
end DL

/-! Small things: ranges with their numbers, any of a made list. -/
namespace DL
open PySem PySem.Spec PyProof.Rows L2
theorem enum_range (f : Nat → PyData) : ∀ (n a k : Nat), enumD k ((List.range' a n).map f) = (List.range' a n).map fun (i : Nat) => PyData.tuple [.int ((k + (i - a) : Nat) : Int), f i]
  | 0, _, _ => rfl
  | n + 1, a, k => by
    rw [List.range'_succ, List.map_cons, enumD, enum_range f n (a + 1) (k + 1), List.map_cons]
    congr 1
    · rw [Nat.sub_self, Nat.add_zero]
    · refine List.map_congr_left fun i hi => ?_
      obtain ⟨h1, _⟩ := List.mem_range'_1.mp hi
      rw [show k + 1 + (i - (a + 1)) = k + (i - a) by omega]
theorem enum_range0 (f : Nat → PyData) (n : Nat) : enumD 0 ((List.range n).map f) = (List.range n).map fun (i : Nat) => PyData.tuple [.int (i : Nat), f i] := by
  rw [List.range_eq_range', enum_range]
  exact List.map_congr_left fun i _ => by rw [Nat.sub_zero, Nat.zero_add]
theorem any_of {α : Type} (f : α → Bool) (l : List α) : (l.map f).any id = l.any f := by
  rw [List.any_map]; rfl
theorem all_of {α : Type} (f : α → Bool) (l : List α) : (l.map f).all id = l.all f := by
  rw [List.all_map]; rfl
theorem nums_map (l : List Nat) : (nums l).map PyData.int = l.map fun (i : Nat) => .int (i : Nat) := by unfold nums; rw [List.map_map]; rfl
end DL

/-! Layers with ups. -/
namespace DL
open PySem PySem.Spec PyProof.Rows L2
theorem dep_mapI {α : Type} (f : α → Int) (l : List α) : dep 60 (.list (l.map fun x => PyData.int (f x))) = true := by
  simp only [dep]
  rw [List.all_map]
  exact List.all_eq_true.mpr fun x _ => rfl
theorem intsAt {xs : List Int} {i : Nat} (h : i < xs.length) : atI (xs.map PyData.int) (i : Int) = some (.int (xs.getD i 0)) := by
  apply atI_ok
  rw [List.getElem?_map, List.getD_eq_getElem?_getD, List.getElem?_eq_getElem h]
  rfl
theorem map_idx {α β : Type} (d : α) (f : α → β) (xs : List α) : xs.map f = (List.range xs.length).map fun i => f (xs.getD i d) := by
  apply List.ext_getElem
  · simp
  · intro i h1 h2
    have hi : i < xs.length := by simpa using h1
    simp [List.getD_eq_getElem?_getD, List.getElem?_eq_getElem hi]
/-- those of the layer ahead that beat i -/
def above (ps : List (List Int)) (i : Nat) : List Nat := (List.range ps.length).filter fun j => decide (((lay ps j : Nat) : Int) = ((lay ps i : Nat) : Int) - 1) && bt ps j i
def fallN (ps : List (List Int)) (some : List Int) (i : Nat) : Bool := (List.range ps.length).all fun j => !(bt ps j i && decide (some.getD i 0 ≤ some.getD j 0))
def falls (ps : List (List Int)) (some : List Int) : Bool := (List.range ps.length).all fun i => fallN ps some i
end DL

/-! What is plain about kinds of data. -/
namespace DL
open PySem PySem.Spec PyProof.Rows L2
theorem kd_non_none : DL.isNon .none = true := rfl
theorem kd_non_int (x) : DL.isNon (.int x) = false := rfl
theorem kd_non_tuple (x) : DL.isNon (.tuple x) = false := rfl
end DL

/-! Guards. -/
namespace DL
open PySem PySem.Spec PyProof.Rows L2
section
variable {ps : List (List Int)}
end
end DL

/-! A tuple times a number, nought and one among them; parts of tuples. -/
namespace DL
open PySem PySem.Spec PyProof.Rows L2
theorem tuple_mulW1 (l : Addr) (items : Array Value) (n : Nat) (dd : Option Addr) (sl : Array (Option Value)) (u : Tok) :
    Meets (Builtin.«tuple.__mul__» ⟨[.ref l, .int 1 u], []⟩) (fun _ R s => s.heap.get? l = some { cls := .type "tuple", dict := dd, data := .seq items n, slots := sl } ∧ R (.ok (.ret (Value.ref l))) s) :=
  .of_wp fun prog w A R s h => by
    obtain ⟨hp, g, d, tk, os⟩ := s
    obtain ⟨hl, h⟩ := h
    have f1 := AutoSeq1.idx_int
    wp_walk using wpAny_loadPart' hl
    exact ⟨_, rfl, h⟩
theorem tuple_mulW0 (l : Addr) (items : Array Value) (n : Nat) (dd : Option Addr) (sl : Array (Option Value)) (u : Tok) (hi : items.isEmpty = false) :
    Meets (Builtin.«tuple.__mul__» ⟨[.ref l, .int 0 u], []⟩) (fun _ R s => s.heap.get? l = some { cls := .type "tuple", dict := dd, data := .seq items n, slots := sl } ∧
      R (.ok (.ret (Value.ref s.heap.objs.size))) { s with heap := s.heap.push { cls := Value.type "tuple", data := Data.seq #[] }, toks := s.toks }) :=
  .of_wp fun prog w A R s h => by
    obtain ⟨hp, g, d, tk, os⟩ := s
    obtain ⟨hl, h⟩ := h
    have f1 := AutoSeq1.idx_int
    wp_walk using wpAny_loadPart' hl
    exact ⟨_, rfl, h⟩
def rRepT1 (K : PySem.W.Frag) : R2 := fun x y H Q => ∃ l xs, x = .ref l ∧ y = .int 1 ∧ SqT K H l xs ∧ Q (.ref l) H
def rRepT0 (K : PySem.W.Frag) : R2 := fun x y H Q => ∃ l xs, x = .ref l ∧ y = .int 0 ∧ SqT K H l xs ∧ xs ≠ [] ∧ ∀ p, H p = none → Q (.ref p) (upd H p (.tup []))
section
variable {X : Cx}
theorem op_repT1 : OpR X (binaryOp .Mult) (rRepT1 X.K) := by
  intro pins s σ H x y v u Q I rx ry h
  obtain ⟨l, xs, rfl, rfl, hT, q⟩ := h
  cases rx
  obtain ⟨t, rfl⟩ := ry
  obtain ⟨its, r, ⟨⟨cls, dd, data, sl⟩, ho, hc, n, hd⟩, hs⟩ := I.tuple hT
  simp only at hc hd
  subst hc hd
  refine wpAny_binaryOp_repeat_ref (T := "tuple") (U := "int") (by decide) ⟨_, ho, rfl⟩ (fun s' => typeIs_int s' 1 t) noFill_tuple_mul F.fills_int_mul F.slot_int_rmul repeat_tuple F.slot_int_index.lookup
    (call_meets F.slot_int_rmul (typeIs_int s 1 t) F.entry_int_rmul (F.args_int_rmul_2 _ _) (int_rmul_tuple 1 t l its.toArray n dd sl)
      ⟨ho, rfl, ⟨_, ho, rfl⟩, call_meets F.slot_tuple_mul ⟨_, ho, rfl⟩ F.entry_tuple_mul (F.args_tuple_mul_2 _ _) (tuple_mulW1 l its.toArray n dd sl t) ⟨ho, ?_⟩⟩)
  exact ⟨.ref l, _, I, rfl, q⟩
theorem op_repT0 : OpR X (binaryOp .Mult) (rRepT0 X.K) := by
  intro pins s σ H x y v u Q I rx ry h
  obtain ⟨l, xs, rfl, rfl, hT, hne, q⟩ := h
  cases rx
  obtain ⟨t, rfl⟩ := ry
  obtain ⟨its, r, ⟨⟨cls, dd, data, sl⟩, ho, hc, n, hd⟩, hs⟩ := I.tuple hT
  simp only at hc hd
  subst hc hd
  have hle : its.length = xs.length := r.length.symm
  have hn : its ≠ [] := fun e => hne (by
    rw [e] at hle
    exact List.eq_nil_of_length_eq_zero hle.symm)
  have hi : its.toArray.isEmpty = false := by
    cases its with
    | nil => exact absurd rfl hn
    | cons a b => rfl
  refine wpAny_binaryOp_repeat_ref (T := "tuple") (U := "int") (by decide) ⟨_, ho, rfl⟩ (fun s' => typeIs_int s' 0 t) noFill_tuple_mul F.fills_int_mul F.slot_int_rmul repeat_tuple F.slot_int_index.lookup
    (call_meets F.slot_int_rmul (typeIs_int s 0 t) F.entry_int_rmul (F.args_int_rmul_2 _ _) (int_rmul_tuple 0 t l its.toArray n dd sl)
      ⟨ho, rfl, ⟨_, ho, rfl⟩, call_meets F.slot_tuple_mul ⟨_, ho, rfl⟩ F.entry_tuple_mul (F.args_tuple_mul_2 _ _) (tuple_mulW0 l its.toArray n dd sl t hi) ⟨ho, ?_⟩⟩)
  refine ⟨.ref s.heap.objs.size, _, I.laid (t' := s.toks) (o := .tup []) (fun b ob q => Heap.get?_push_of_some _ q) (Nat.le_refl _) ?_, rfl, q _ (I.hok.fresh (Nat.le_refl _))⟩
  exact ⟨Nat.zero_le _, [], .nil, IsTup.new _ _⟩
def rRepA (K : PySem.W.Frag) : R2 := fun x y H Q => rRep x y H Q ∨ rRepT1 K x y H Q ∨ rRepT0 K x y H Q ∨ rRepT K x y H Q
theorem op_repA : OpR X (binaryOp .Mult) (rRepA X.K) := by
  intro pins s σ H x y v u Q I rx ry h
  rcases h with h | h | h | h
  · exact op_rep pins s σ H x y v u Q I rx ry h
  · exact op_repT1 pins s σ H x y v u Q I rx ry h
  · exact op_repT0 pins s σ H x y v u Q I rx ry h
  · exact op_repT pins s σ H x y v u Q I rx ry h
end
section
variable {X : Cx} {B : Ba} {K : PySem.W.Frag} {lk : List Nat} {a b : Expr} {ta tb : DT} {pos : Pos}
def gRepA : DOp := fun st x y Q => match pyT st x, pyT st y with
  | some (.list xs), some (.int k) => -(2 ^ 63) ≤ k ∧ k < 2 ^ 63 ∧ xs.length * k.toNat ≤ sizeLine ∧ Q (.ow (List.replicate k.toNat xs).flatten) st
  | some (.tuple xs), some (.int k) => 0 ≤ k ∧ k ≤ 1000 ∧ xs ≠ [] ∧ xs.length ≤ 1000 ∧ Q (.fr (.tuple (List.replicate k.toNat xs).flatten)) st
  | _, _ => False
theorem gRepA_ok : DOk K B gRepA (rRepA K) := by
  intro lv st tm σ tv H x y u v Q0 Q R h k
  unfold gRepA at h
  split at h
  · rename_i xs j e1 e2
    obtain rfl := pyT_int R e2
    obtain ⟨F, O, R⟩ := R
    obtain ⟨b, ws, rfl, h2, r2⟩ := R.pop.lstT e1
    exact .inl ⟨b, j, ws, rfl, rfl, h2, h.1, h.2.1, by rw [r2.length]; exact h.2.2.1, fun p hp => k _ _ _ _ h.2.2.2 ⟨F, _, R.pop.pop.newLst hp (r2.rep _)⟩⟩
  · rename_i xs j e1 e2
    obtain rfl := pyT_int R e2
    obtain ⟨F, O, R⟩ := R
    obtain ⟨b, ws, rfl, h2, r2⟩ := R.pop.tup (pyO_of_pyT e1)
    obtain ⟨c1, c2, c3, c4, h⟩ := h
    have hw : ws ≠ [] := fun e => c3 (by subst e; cases r2; rfl)
    by_cases j0 : j = 0
    · subst j0
      exact .inr (.inr (.inl ⟨b, ws, rfl, rfl, h2, hw, fun p hp => k _ _ _ _ h ⟨F, _, R.pop.pop.newTup hp (r2.rep 0)⟩⟩))
    · by_cases j1 : j = 1
      · subst j1
        have e : (List.replicate (1 : Int).toNat xs).flatten = xs := by simp
        rw [e] at h
        exact .inr (.inl ⟨b, ws, rfl, rfl, h2, k _ _ _ _ h ⟨F, O, R.pop.pop.push (d := .fr (.tuple xs)) (Rp.tup h2 r2)⟩⟩)
      · exact .inr (.inr (.inr ⟨b, j, ws, rfl, rfl, h2, hw, by omega, c2, by rw [r2.length]; exact c4, fun p hp => k _ _ _ _ h ⟨F, _, R.pop.pop.newTup hp (r2.rep _)⟩⟩))
  · exact h.elim
theorem de_repA (ha : DE X B lk a ta) (hb : DE X B lk b tb) : DE X B lk (.BinOp a .Mult b pos) (c2 gRepA ta tb) := de_op op_repA gRepA_ok ha hb
end
section
variable {st : List Vl} {v w : Vl} {xs : List PyData} {Q : Vl → List Vl → Prop} {k : Int}
theorem s_repL (e1 : pyT st v = some (.list xs)) (e2 : pyT st w = some (.int k)) (h1 : -(2 ^ 63) ≤ k) (h2 : k < 2 ^ 63) (h3 : xs.length * k.toNat ≤ sizeLine) (h : Q (.ow (List.replicate k.toNat xs).flatten) st) : gRepA st v w Q := by unfold gRepA; rw [e1, e2]; exact ⟨h1, h2, h3, h⟩
theorem s_repT (e1 : pyT st v = some (.tuple xs)) (e2 : pyT st w = some (.int k)) (h1 : 0 ≤ k) (h2 : k ≤ 1000) (h3 : xs ≠ []) (h4 : xs.length ≤ 1000) (h : Q (.fr (.tuple (List.replicate k.toNat xs).flatten)) st) : gRepA st v w Q := by unfold gRepA; rw [e1, e2]; exact ⟨h1, h2, h3, h4, h⟩
theorem s_repL1 {d : PyData} {n : Nat} (hn : n ≤ 100000) (h : Q (.ow (List.replicate n d)) st) : gRepA st (.ow [d]) (.fr (.int (n : Nat))) Q := by
  refine s_repL (xs := [d]) rfl rfl (by omega) (by omega) ?_ ?_
  · rw [List.length_singleton, Nat.one_mul, Int.toNat_natCast]
    exact small (k := 100000) hn
  · rw [Int.toNat_natCast, flat_one]
    exact h
theorem s_repT1 {d : PyData} {n : Nat} (hn : n ≤ 1000) (h : Q (.fr (.tuple (List.replicate n d))) st) : gRepA st (.fr (.tuple [d])) (.fr (.int (n : Nat))) Q := by
  refine s_repT (xs := [d]) rfl rfl (by omega) (by omega) (by simp) (by simp) ?_
  rw [Int.toNat_natCast, flat_one]
  exact h
end
/-! parts of a made list -/
def cutG {α : Type} (l : List α) (lo hi : Option Int) : List α := (l.drop (HT.sIx l.length 0 lo)).take (HT.sIx l.length l.length hi - HT.sIx l.length 0 lo)
theorem cut_map {α : Type} (f : α → PyData) (l : List α) (lo hi : Option Int) : cut (l.map f) lo hi = (cutG l lo hi).map f := by
  unfold cut cutG
  rw [List.length_map, List.map_take, List.map_drop]
theorem cutG_len {α : Type} (l : List α) (lo hi : Option Int) : (cutG l lo hi).length ≤ l.length := by
  unfold cutG
  rw [List.length_take, List.length_drop]
  omega
theorem sort_map {α : Type} (f : α → PyData) (l : List α) : (l.map f).mergeSort (PySem.W.dataLe false id) = (l.mergeSort fun a b => PySem.W.dataLe false id (f a) (f b)).map f :=
  (List.map_mergeSort (r := fun a b => PySem.W.dataLe false id (f a) (f b)) (s := PySem.W.dataLe false id) (f := f) (l := l) fun a _ b _ => rfl).symm
theorem iset (so : List Int) (i : Nat) (o : Int) : (so.map PyData.int).set i (.int o) = (so.set i o).map .int := List.map_set.symm
end DL

/-! Spans: the nearest place ahead and behind whose point beats a place's own. -/
namespace DL
open PySem PySem.Spec PyProof.Rows L2
def FarI (x : Int) : Prop := -(10 ^ 9) ≤ x ∧ x ≤ 10 ^ 9
section
variable (ps : List (List Int)) (i : Nat)
end
theorem eqvAll_pts : ∀ (ps qs : List (List Int)), PyData.eqvAll (ps.map pt) (qs.map pt) = decide (ps = qs)
  | [], [] => by simp [PyData.eqvAll]
  | [], _ :: _ => by simp [PyData.eqvAll]
  | _ :: _, [] => by simp [PyData.eqvAll]
  | x :: xs, y :: ys => by
    rw [List.map_cons, List.map_cons, PyData.eqvAll, eqv_pt, eqvAll_pts xs ys, ← Bool.decide_and, decide_eq_decide, List.cons.injEq]
theorem eqv_pts (ps qs : List (List Int)) : PyData.eqv (pts ps) (pts qs) = decide (ps = qs) := by rw [pts, pts, PyData.eqv, eqvAll_pts]
end DL

/-! The greatest and the least of what a span is taken of. -/
namespace DL
open PySem PySem.Spec PyProof.Rows L2
end DL

/-! Lists of things that a word makes, at most so long. -/
namespace DL
open PySem PySem.Spec PyProof.Rows L2
section
variable {α : Type} {f : α → PyData} {a b : Nat} {xs ys : List PyData}
end
end DL

/-! On how many windows' fronts a place is: the counting. -/
namespace DL
open PySem PySem.Spec PyProof.Rows L2
section
variable (ps : List (List Int))
variable {ps}
end
end DL

/-! max with a default, max of a tuple. -/
namespace DL
open PySem PySem.Spec PyProof.Rows L2
section
variable {prog : Program} {w : World} {A : Around} {E : Value → Shared → Prop} {s : Shared} {a : Addr} {its : List Value} {ns : List Int} {Q : Value → Shared → Prop}
theorem cmpIn_ints (H : Heap) (xs : Array (Int × Tok)) : CmpIn prog w A .Gt H (fun i v => (intItems xs)[i]? = some v) (fun i j => decide (numAt xs i > numAt xs j)) := fun i j vi vj s' Q E _ hi hj hq => by
  exact CmpOf.ints_gt (numAt xs) (fun _ _ => intItems_at) i j vi vj s' Q E hi hj hq
theorem maxD_raw {d : Value} (hh : A.handled = none) (hl : s.heap.IsList a its.toArray) (hi : IntsAre its ns)
    (h0 : ns = [] → ∀ h' tk, (∀ b o, s.heap.get? b = some o → h'.get? b = some o) → Q d { s with heap := h', toks := tk })
    (h : ∀ h' tk M t', (∀ b o, s.heap.get? b = some o → h'.get? b = some o) → M ∈ ns → (∀ a, a ∈ ns → a ≤ M) → Q (.int M t') { s with heap := h', toks := tk }) : wpAny (model prog w) A (call (.builtin "max") [.ref a] [(Str.ofString "default", d)]) Q E s := by
  obtain ⟨xs, e⟩ := hi.allInts.items
  have hn : numsOf (intItems xs).toList = ns := by rw [← e]; exact hi.numsOf
  rw [nums_intItems] at hn
  subst hn
  rw [e] at hl
  have hsz : (intItems xs).size = xs.size := by simp [intItems]
  refine call_max_walkD (PySem.W.iter_listW (A := A.in1) hh hl fun s₂ e W st hfp hw hk => ?_)
  refine ⟨_, _, _, _, _, _, _, s.heap, _, rfl, W, st, hfp, hw, hk, fun hz s' m => ?_, fun hp => ⟨cmpIn_ints s.heap xs, fun v s' hP m => ?_⟩⟩
  · obtain ⟨h', tk, rfl, hk'⟩ := PySem.W.moved_old e rfl m
    refine h0 ?_ h' tk hk'
    rw [hsz] at hz
    exact List.eq_nil_of_length_eq_zero (by rw [List.length_map, Array.length_toList]; exact hz)
  · obtain ⟨h', tk, rfl, hk'⟩ := PySem.W.moved_old e rfl m
    rw [hsz] at hP hp
    obtain ⟨t, rfl⟩ := intItems_at hP
    obtain ⟨h1, h2⟩ := argBest_gt (numAt xs) (xs.size - 1)
    refine h h' tk _ t hk' ?_ fun a ha => ?_
    · rw [numAt_eq]; exact PySem.getD_mem (by rw [List.length_map, Array.length_toList]; omega)
    · obtain ⟨j, hj, rfl⟩ := mem_getD ha
      rw [List.length_map, Array.length_toList] at hj
      rw [← numAt_eq]; exact h2 j (by omega)
end
section
variable {X : Cx} {B : Ba} {K : PySem.W.Frag} {lk : List Nat} {e d : Expr} {es : List Expr} {t : DTA} {ta td : DT} {p pos kpos : Pos}
/-- max(x, default=d): a list of whole numbers, perhaps empty -/
def rMaxDf (K : PySem.W.Frag) : List V → List V → Hp → VK → Prop := fun vs zs H Q => ∃ (a : Addr) (ns : List Int) (d : Int), vs = [V.ref a] ∧ zs = [V.int d] ∧ SqL K H a (ns.map V.int) ∧ (ns = [] → Q (.int d) H) ∧ ∀ m, m ∈ ns → (∀ y, y ∈ ns → y ≤ m) → Q (.int m) H
theorem cr_maxDf (hc : X.calm = true) : CallRK X (.builtin "max") ["default"] (rMaxDf X.K) := by
  intro pins s σ H vs zs us ws Q I r rz h
  obtain ⟨a, ns, d, rfl, rfl, hs, q0, q⟩ := h
  rw [Vals.ref1 r]
  cases rz with
  | cons rz rn =>
    cases rn
    obtain ⟨t, rfl⟩ := rz
    obtain ⟨its, rv, hl, _⟩ := I.list hs
    exact maxD_raw (I.ok.hd hc) hl.isList rv.ints (fun e h' tk hk => ⟨.int _, H, I.kept hk, ⟨_, rfl⟩, q0 e⟩) fun h' tk m t' hk h1 h2 => ⟨.int _, H, I.kept hk, ⟨_, rfl⟩, q m h1 h2⟩
def gMaxDf : List Vl → Vl → Vl → (Vl → Prop) → Prop := fun st x d Q => match d with
  | .fr (.int d) => ∃ ns : List Int, pyO st x = some (.list (ns.map .int)) ∧ (ns = [] → Q (.fr (.int d))) ∧ ∀ m, m ∈ ns → (∀ y, y ∈ ns → y ≤ m) → Q (.fr (.int m))
  | _ => False
def cMaxDf (ta td : DT) : DT := fun st Q => ta st fun x st1 => td st1 fun d st2 => gMaxDf st2 x d fun r => Q r st2
theorem de_maxDf (hc : X.calm = true) (hg : Gl X "max") (hm : X.mg "max" = none) (ha : DE X B lk e ta) (hd : DE X B lk d td) (he : starEach [e] X.env = (false, eval e X.env) :: starEach [] X.env := by rfl)
    (he2 : backTo pos (starEach [e] X.env) = (false, eval e X.env) :: backTo pos (starEach [] X.env) := by rfl) (hpl : (backTo pos (starEach [e] X.env)).any (·.1) = false := by rfl) :
    DE X B lk (.Call (.Name "max" p) [e] [⟨some "default", d, kpos⟩] pos) (cMaxDf ta td) := by
  refine PE.weak (pe_callBK (cr_maxDf hc) hg hm boot_max (pa_cons ha pa_nil he) (pk_cons hd pk_nil) (he := he2) (hpl := hpl)) fun σ H Q ⟨lv, st, tm, tv, Q0, L, R, h, k⟩ => ?_
  refine ⟨lv, st, tm, tv, _, L, R, h, fun x st1 u H1 h1 R1 => ?_⟩
  refine ⟨lv, st1, x :: tm, u :: tv, _, L, R1, h1, fun y st2 v H2 h2 R2 => ?_⟩
  unfold gMaxDf at h2
  split at h2
  · rename_i n
    obtain ⟨ns, e1, q0, q⟩ := h2
    obtain rfl := R2.isInt
    obtain ⟨F, O, R3⟩ := R2.pop
    obtain ⟨a, vs, rfl, hl, r⟩ := R3.lst e1
    obtain rfl := r.ints
    exact ⟨a, ns, n, rfl, rfl, hl, fun e => k _ _ _ _ (q0 e) ⟨F, O, R3.pop.push (d := .fr (.int _)) (.int _)⟩, fun m h1 h2 => k _ _ _ _ (q m h1 h2) ⟨F, O, R3.pop.push (d := .fr (.int _)) (.int _)⟩⟩
  · exact h2.elim
end
section
variable {st : List Vl} {Q : Vl → List Vl → Prop} {ta td : DT}
theorem s_maxDf (h : ta st fun x st1 => td st1 fun d st2 => gMaxDf st2 x d fun r => Q r st2) : cMaxDf ta td st Q := h
end
end DL

/-! Sums by leans, the greatest of them. -/
namespace DL
open PySem PySem.Spec PyProof.Rows L2
def leansB (m : Nat) (ls : List Int) : Bool := decide (ls.length = m) && (ls.all (fun l => decide (0 ≤ l ∧ l ≤ 1000000000)) && ls.any fun l => decide (0 < l))
def dotS (xs ls : List Int) : Int := ((xs.zip ls).map fun p => p.1 * p.2).sum
def mxW : List Int → Int
  | [] => 0
  | x :: l => l.foldl max x
theorem foldl_max (l : List Int) : ∀ x : Int, x ≤ l.foldl max x ∧ (∀ y ∈ l, y ≤ l.foldl max x) ∧ (l.foldl max x = x ∨ l.foldl max x ∈ l) := by
  induction l with
  | nil => intro x; exact ⟨Int.le_refl _, by simp, .inl rfl⟩
  | cons a l ih =>
    intro x
    obtain ⟨h1, h2, h3⟩ := ih (max x a)
    rw [List.foldl_cons]
    refine ⟨by omega, fun y hy => ?_, ?_⟩
    · rcases List.mem_cons.mp hy with rfl | hy
      · omega
      · exact h2 y hy
    · rcases h3 with h3 | h3
      · rw [h3]
        rcases Int.le_total x a with h | h
        · rw [Int.max_eq_right h]; exact .inr List.mem_cons_self
        · rw [Int.max_eq_left h]; exact .inl rfl
      · exact .inr (List.mem_cons_of_mem _ h3)
theorem mx_of {ws : List Int} {m : Int} (h1 : m ∈ ws) (h2 : ∀ y ∈ ws, y ≤ m) : m = mxW ws := by
  cases ws with
  | nil => cases h1
  | cons x l =>
    obtain ⟨a, b, c⟩ := foldl_max l x
    simp only [mxW]
    refine Int.le_antisymm ?_ ?_
    · rcases List.mem_cons.mp h1 with rfl | h
      · exact a
      · exact b m h
    · rcases c with c | c
      · rw [c]; exact h2 x List.mem_cons_self
      · exact h2 _ (List.mem_cons_of_mem _ c)
theorem mx_mem {ws : List Int} (h : ws ≠ []) : mxW ws ∈ ws ∧ ∀ y ∈ ws, y ≤ mxW ws := by
  cases ws with
  | nil => exact absurd rfl h
  | cons x l =>
    obtain ⟨a, b, c⟩ := foldl_max l x
    simp only [mxW]
    refine ⟨?_, fun y hy => ?_⟩
    · rcases c with c | c
      · rw [c]; exact List.mem_cons_self
      · exact List.mem_cons_of_mem _ c
    · rcases List.mem_cons.mp hy with rfl | h
      · exact a
      · exact b y h
/-- the places of the greatest ones -/
def greatI (ws : List Int) : List Nat := (List.range ws.length).filter fun i => decide (ws.getD i 0 = mxW ws)
def bestN (ps : List (List Int)) (ls : List Int) : List Nat := greatI (ps.map fun p => dotS p ls)
theorem mx_scale (ws : List Int) (k : Int) (hk : 0 < k) : mxW (ws.map fun w => k * w) = k * mxW ws := by
  by_cases h : ws = []
  · subst h; simp [mxW]
  · obtain ⟨h1, h2⟩ := mx_mem h
    refine (mx_of (List.mem_map.mpr ⟨_, h1, rfl⟩) fun y hy => ?_).symm
    obtain ⟨z, hz, rfl⟩ := List.mem_map.mp hy
    exact Int.mul_le_mul_of_nonneg_left (h2 z hz) (Int.le_of_lt hk)
theorem great_scale (ws : List Int) (k : Int) (hk : 0 < k) : greatI (ws.map fun w => k * w) = greatI ws := by
  unfold greatI
  rw [List.length_map, mx_scale ws k hk]
  refine List.filter_congr fun i hi => ?_
  have hi := List.mem_range.mp hi
  rw [List.getD_eq_getElem?_getD, List.getElem?_map, List.getD_eq_getElem?_getD, List.getElem?_eq_getElem hi, Option.map_some, Option.getD_some, Option.getD_some, decide_eq_decide]
  exact ⟨fun h => Int.eq_of_mul_eq_mul_left (by omega) h, fun h => by rw [h]⟩
theorem great_length (ws : List Int) : (greatI ws).length ≤ ws.length := by
  unfold greatI
  have := List.length_filter_le (fun i => decide (ws.getD i 0 = mxW ws)) (List.range ws.length)
  rw [List.length_range] at this
  exact this
theorem mul_box {x y a b : Int} (h1 : 0 ≤ x) (h2 : x ≤ a) (h3 : 0 ≤ y) (h4 : y ≤ b) : 0 ≤ x * y ∧ x * y ≤ a * b :=
  ⟨Int.mul_nonneg h1 h3, Int.mul_le_mul h2 h4 h3 (Int.le_trans h1 h2)⟩
end DL

/-! list.index of whole numbers, list.reverse. -/
namespace DL
open PySem PySem.Spec PyProof.Rows L2
section
variable {X : Cx} {B : Ba} {lk : List Nat} {o e : Expr} {to te : DT} {apos cpos : Pos}
end
section
variable {st : List Vl} {Q : Vl → List Vl → Prop} {to te : DT} {d : Vl} {xs : List PyData} {k : Int}
end
/-! the longest row -/
end DL

/-! Exceptions: what a def may let out, a call that may raise, raise. -/
namespace DL
open PySem PySem.Spec PyProof.Rows L2
/-- an exception of the program in the air, over data: its class by name, the slots then -/
def WD (K : PySem.W.Frag) (mg : Str → Option Value) (B : Ba) (EX : Xn → List Vl → Prop) : WX := fun cls d σ H =>
  ∃ x lv st tm tv F O, (∀ p ∈ B.L0, p ∈ lv) ∧ RelX K B lv st tm σ tv H F O ∧ XnR K mg F H x cls d ∧ EX x st
section
variable {X : Cx} {B : Ba} {lk lk' : List Nat} {e : Expr} {es : List Expr} {t : DTA} {p pos : Pos} {x : Str} {j k n : Nat} {S : VSp} {EX : Xn → List Vl → Prop} {f : Addr} {fd : FuncData} {ps : List Str} {CX : CXT} {sp : Sp} {ta : TA}
theorem run_fnSG {pins : List (Addr × Obj)} {σ : L2.St} {H : Hp} {s : Shared} {Q : VK} {us : List Value} {vs : List V} {E : L2.St → XK} (F : FnG X.prog X.w X.K X.mg X.base CX k f fd ps sp) (hr : Room k X.A) (hgd : X.A.guards = some []) (hb : Binds X.K fd ps []) (hx : PassesAt CX X σ (E σ))
    (I : Inv X pins σ H s) (r : Vals vs us) (h : sp vs H Q (E σ)) : wpAny (model X.prog X.w) X.A (call (.ref f) us) (EP X pins σ Q) X.xe s := by
  have hl : us.length = ps.length := by rw [← r.length]; exact F.len _ _ _ _ h
  have hb' := hb s us I.kIn (by rw [List.append_nil]; exact hl)
  rw [List.append_nil] at hb'
  refine wpAny_call (codeAny_mono (F.run X.A X.stack s H ⟨us, []⟩ us vs Q (E σ) hr hgd I.env0 hb' r h) fun r s' hq => ?_)
  match r, hq with
  | .error e, hq => exact hx pins H s e s' I hq
  | .ok (.ret u), hq => exact I.after hq
  | .ok .next, hq => exact False.elim hq
  | .ok .brk, hq => exact False.elim hq
  | .ok .cont, hq => exact False.elim hq
theorem pe_callSG {E : L2.St → XK} (F : FnG X.prog X.w X.K X.mg X.base CX k f fd ps sp) (hr : Room k X.A) (hgd : X.A.guards = some []) (hg : Gl X x) (hm : X.mg x = some (.ref f)) (hk : PySem.W.keepIn X.K (.ref f) = true) (hb : Binds X.K fd ps []) (hx : ∀ σ, PassesAt CX X σ (E σ))
    (ha : PA X (e :: es) ta) (hdb : (x == ("__debug__" : Str)) = false := by decide) (he : starEach (e :: es) X.env = (false, eval e X.env) :: starEach es X.env := by rfl) (hpl : (backTo pos (starEach es X.env)).any (·.1) = false := by rfl) :
    PE X (.Call (.Name x p) (e :: es) [] pos) (tCallS sp E ta) := by
  refine ⟨fun pins s σ H Q I h => ?_⟩
  refine wpAny_Call_Name_kw (ld_glob I hg hm ?_ hdb)
  refine PySem.W.callWith_K (h₀ := X.base) I.ok.mod.kin hk (thn (ha.run pos pins s σ H _ I h) fun us s1 ⟨vs, H1, I1, r, q⟩ => ⟨I1.kIn, ?_⟩) he hpl
  exact run_fnSG F hr hgd hb (hx σ) I1 r q
/-- f(e, ..) that may raise -/
def cCallX (lk : List Nat) (S : VSp) (EX : Xn → List Vl → Prop) (t : DTA) : DT := fun st Q => t st fun ds st1 => okB lk 0 ds = true ∧ S (ds.map (res st1)) (fun r ds' => Q r (upds ds' 0 ds st1)) (fun x ds' => EX x (upds ds' 0 ds st1))
theorem call_weakX (F : FnG X.prog X.w X.K X.mg X.base CX k f fd ps (spV X.K X.mg lk' n S)) (h0 : ∀ ds Q E, S ds Q E → ds.length = n) {σ : L2.St} {H : Hp} {Q : VK} (h : LE X.K B lk (cCallX lk' S EX t) σ H Q) :
    tCallS (spV X.K X.mg lk' n S) (WE (WD X.K X.mg B EX)) (LA X.K B lk t) σ H Q := by
  obtain ⟨lv, st, tm, tv, Q0, L, R, h, k⟩ := h
  refine ⟨lv, st, tm, tv, _, L, R, h, fun ds st1 vs H1 q hl R1 => ?_⟩
  obtain ⟨ok, hS⟩ := q
  obtain ⟨F, O, R1⟩ := R1
  refine ⟨by rw [hl, ← List.length_map (f := res st1)]; exact h0 _ _ _ hS, F, argO ds tm.length O, ds.map (res st1), _, _, R1.pre hl ok, hS, fun r ds' v H' F' O' q1 P r1 => ?_, fun x ds' cls d H' F' O' q1 P r1 => ?_⟩
  · exact k _ _ _ _ q1 ⟨F', _, (R1.post hl ok P).push (r1.keep (fun _ f => f) (fun _ _ e _ => e) (fun a ea => by rw [ea]) (fun _ _ _ e => e))⟩
  · exact ⟨x, lv, _, tm, tv, F', _, L.2, R1.post hl ok P, r1, q1⟩
theorem de_callX (c : Def X.prog X.w X.K X.mg X.base (L2.CX X.prog X.w) k x lk' n S) (tk : Takes X (WD X.K X.mg B EX)) (h0 : ∀ ds Q E, S ds Q E → ds.length = n) (hr : Room j X.A) (hgd : X.A.guards = some []) (hk : k ≤ j) (hg : Gl X x) (ha : DA X B lk (e :: es) t)
    (hdb : (x == ("__debug__" : Str)) = false := by decide) (he : starEach (e :: es) X.env = (false, eval e X.env) :: starEach es X.env := by rfl) (hpl : (backTo pos (starEach es X.env)).any (·.1) = false := by rfl) :
    DE X B lk (.Call (.Name x p) (e :: es) [] pos) (cCallX lk' S EX t) := by
  obtain ⟨f, fd, ps, hm, F, b, kp⟩ := c.ex
  exact PE.weak (pe_callSG F (hr.mono hk) hgd hg hm kp b (fun σ => passAt tk σ) ha hdb he hpl) fun _ _ _ h => call_weakX F h0 h
/-- what is known of a class of exceptions by its name -/
structure ExcG (K : PySem.W.Frag) (mg : Str → Option Value) (x : Str) : Prop where
  ex : ∃ (bmB : List Value) (Bn newId initId : String), mg x = some (.ref (He.ga K x)) ∧ ExcBaseFacts Bn newId initId bmB ∧ PySem.W.excIn K (He.ga K x) bmB newId = true ∧ PySem.W.keepIn K (.ref (He.ga K x)) = true ∧
    PySem.W.subIn K (.ref (He.ga K x)) (.type "BaseException") = some true ∧ PySem.W.typeIn K (.ref (He.ga K x)) = some (.type "type")
def cRaise (x : Str) (EX : Xn → List Vl → Prop) : DTS := fun _ st => EX ⟨x, none⟩ st
theorem ds_raise {m : Str} {i : Nat} {p2 pos2 : Pos} (G : ExcG X.K X.mg x) (hc : X.calm = true) (tk : Takes X (WD X.K X.mg B EX)) (hg : Gl X x) (hdb : (x == ("__debug__" : Str)) = false := by decide) :
    DS X B lk (.Raise (some (.Call (.Name x p) [.Constant (.str m) i p2] [] pos2)) none pos) (cRaise x EX) := by
  obtain ⟨bmB, Bn, newId, initId, hm, F, q, kC, h1, h2⟩ := G.ex
  refine PS.weak (ps_raise hc tk (pmk_own F q hm kC (raises_own h1 h2) hg hdb)) fun D σ H ⟨lv, st, tm, tv, D0, L, Bt, R, h, k⟩ => ?_
  obtain ⟨F, O, R⟩ := R
  exact ⟨⟨x, none⟩, lv, st, tm, tv, F, O, L.2, R, ⟨rfl, rfl⟩, h⟩
end
section
variable {P : Program} {w : World} {K : PySem.W.Frag} {mg : Str → Option Value} {base : Heap} {k : Nat} {x qual : Str} {params : Arguments} {body : List Stmt} {scope : Scope} {dvs : List V} {kws : List (Str × V)} {f : Addr} {fd : FuncData}
/-- a def that may raise, from its body and reading -/
theorem def_runX {N ps : List Str} {lk : List Nat} {n : Nat} {S : VSp} (F : FunD K x qual params body scope dvs kws f fd) (Sc : FnScope N ps scope) (hn : ps.length = n) (hN : n ≤ N.length)
    (t : (Xn → List Vl → Prop) → DTS) (hbody : ∀ (cdv : Value) (A : Around) (outer : List Env) (s : Shared) (H : Hp) (E : XK) (B : Ba) (EX : Xn → List Vl → Prop), Room k (A.deeper (envOfC qual scope s.heap.objs.size f cdv)) → A.guards = some [] →
      Takes (cxOf (L2.CX P w) P w K mg base N qual scope f cdv A outer s H E) (WD K mg B EX) → PassesOwn (model P w) (cxOf (L2.CX P w) P w K mg base N qual scope f cdv A outer s H E).A (cxOf (L2.CX P w) P w K mg base N qual scope f cdv A outer s H E).env (cxOf (L2.CX P w) P w K mg base N qual scope f cdv A outer s H E).xe →
      DSs (cxOf (L2.CX P w) P w K mg base N qual scope f cdv A outer s H E) B lk body (t EX))
    (read : ∀ ds Q0 E0, S ds Q0 E0 → t E0 (dEnds Q0) (ds ++ List.replicate (N.length - n) .gone)) : FnG P w K mg base (L2.CX P w) (k + 1) f fd ps (spV K mg lk n S) := by
  refine fn_ofG F Sc (fun vs H Q E h => h.1.trans hn.symm) fun cdv A outer s H vs Q E hr hgd h => ?_
  obtain ⟨hl, F0, O0, ds, Q0, E0, pre, hS, kQ, kE⟩ := h
  let B : Ba := ⟨H, fun a => O0 a ≠ none, F0, lvs lk vs⟩
  have tk0 : Takes (cxOf (L2.CX P w) P w K mg base N qual scope f cdv A outer s H E) (fun cls d _ H => E cls d H) := takes_of rfl rfl rfl rfl
  have weak : ∀ (lv : List (Nat × V)) (st' tm : List Vl) σ' (tv : List V) H' F' O', (∀ p ∈ lvs lk vs, p ∈ lv) → RelX K B lv st' tm σ' tv H' F' O' → RelX K B (lvs lk vs) st' tm σ' tv H' F' O' := fun lv st' tm σ' tv H' F' O' hL R' =>
    ⟨R'.len, R'.sl, R'.tp, R'.fo, R'.oh, R'.fh, R'.fr, R'.mi, R'.f0, R'.f1, fun p hp => R'.lk p (hL p hp)⟩
  -- behind the body
  have post : ∀ st' σ' (tm : List Vl) (tv : List V) H' F' O', RelX K B (lvs lk vs) st' tm σ' tv H' F' O' → Post K F0 O0 vs H lk st' H' F' O' := fun st' σ' tm tv H' F' O' R' =>
    ⟨fun i hi d v e1 e2 => by
      rcases R'.sl i d e1 with z | ⟨u, h1, h2⟩
      · exact .inl z
      · have := R'.lk _ (lvs_of hi e2)
        rw [h1] at this
        cases this
        exact .inr h2,
    R'.fo, R'.oh, R'.fh, fun a o e n => R'.fr a o e (fun z => z n), fun a w e => R'.mi a w e, R'.f0, fun a fa => by
      rcases R'.f1 a fa with z | z | z
      · exact .inl z
      · exact .inr (.inl z)
      · exact .inr (.inr z)⟩
  refine ⟨_, hbody cdv A outer s H E B E0 hr hgd (tk0.imp fun cls d σ' H' ⟨x, lv, st', tm, tv, F', O', hL, R', xr, ex⟩ => kE x st' cls d H' F' O' ex (post _ _ _ _ _ _ _ (weak _ _ _ _ _ _ _ _ hL R')) xr) (passes_of rfl), ?_⟩
  have hlen : ds.length = n := pre.len.trans hl
  have hs : ∀ i v, vs[i]? = some v → (start N vs)[i]? = some (some v) := fun i v e => by
    have hi := (List.getElem?_eq_some_iff.mp e).1
    unfold L2.start
    rw [List.getElem?_append_left (by rw [List.length_map]; exact hi), List.getElem?_map, e]; rfl
  have R : RelX K B (lvs lk vs) (ds ++ List.replicate (N.length - n) .gone) [] (start N vs) [] H F0 (fun a => (O0 a).map Sum.inl) := by
    refine ⟨?_, fun i d e => ?_, (trivial : True), fun a fa => ?_, fun a w e => ?_, pre.fh, fun a o e _ => e, fun a w e => ?_, fun a fa => fa, fun a fa => .inl fa, fun p hp => hs _ _ (lvs_in hp).2⟩
    · unfold L2.start
      rw [List.length_append, List.length_append, List.length_map, List.length_replicate, List.length_replicate, hlen, hl]
    · by_cases hi : i < ds.length
      · rw [List.getElem?_append_left hi] at e
        have hv : i < vs.length := by rw [hl, ← hlen]; exact hi
        rcases pre.av i d _ e (List.getElem?_eq_getElem hv) with z | z
        · exact .inl z
        · exact .inr ⟨_, hs i _ (List.getElem?_eq_getElem hv), z⟩
      · rw [List.getElem?_append_right (Nat.not_lt.mp hi), List.getElem?_replicate] at e
        split at e
        · cases e; exact .inl rfl
        · cases e
    · rw [pre.fo a fa]; rfl
    · obtain ⟨i, ei, _⟩ := Option.map_eq_some_iff.mp e
      exact pre.oh a i ei
    · obtain ⟨i, ei, _⟩ := Option.map_eq_some_iff.mp e
      exact .inl (show O0 a ≠ none by rw [ei]; exact fun z => nomatch z)
  refine ⟨lvs lk vs, _, [], [], dEnds Q0, ⟨fun p hp => (lvs_in hp).1, fun p hp => hp⟩, (fun i hi => absurd hi List.not_mem_nil), ⟨F0, _, R⟩, read ds Q0 E0 hS, ⟨fun st' σ' H' q ⟨F', O', R'⟩ => ?_, fun d st' v σ' H' q ⟨F', O', R'⟩ => ?_, fun _ _ _ z => z.elim, fun _ _ _ z => z.elim⟩⟩
  · exact kQ (.fr .none) st' .non H' F' O' q (post _ _ _ _ _ _ _ R') .non
  · exact kQ d st' v H' F' O' q.2 (post _ _ _ _ _ _ _ R') (R'.top q.1)
end
end DL

/-! try: .. except X as e: caught = e, where the exception is told in the heap behind it. The rows of ps_try_kept follow the library's rule for a suite whose exception is forgotten; here it is kept. -/
namespace DL
open PySem PySem.Spec PyProof.Rows L2
theorem exT_ok {P : Program} {w : World} {H : Hp} {h : Heap} {a : Addr} {cls : Value} {d : Option Addr} {oe : Obj} {vs : Array Value} (e : h.get? a = some oe) (z : Zc cls d oe) (q : oe.data = .fields vs) : ObjOk P w H h a (ExT cls d a) :=
  ⟨⟨oe, vs, e, z, q⟩, ⟨oe, e⟩, fun _ _ ⟨o, v, q, r⟩ k => ⟨o, v, k o q, r⟩⟩
section
variable {X : Cx} {pins : List (Addr × Obj)} {σ : L2.St} {H : Hp} {s : Shared}
theorem track {a : Addr} {oe : Obj} {vs : Array Value} {cls : Value} {d : Option Addr} (I : Inv X pins σ H s) (ha : s.heap.get? a = some oe) (hd : oe.data = .fields vs) (hz : Zc cls d oe) (na : H a = none) (nL : a ≠ X.env.locals)
    (hP : ∀ p ∈ X.pn ++ pins, p.1 ≠ a) (h0 : X.s_0.heap.get? a = none) : Inv X pins σ (upd H a (ExT cls d a)) s where
  ok := I.ok
  os := I.os
  bare := I.bare
  base := ⟨I.base.keep, I.base.slot, fun b o q n x => by rw [upd_ne (fun z => by rw [z, h0] at q; cases q)]; exact I.base.free b o q n x, I.base.there,
    fun b xs q => by rw [upd_ne (ne_of_none (I.base.tups b xs q) na)]; exact I.base.tups b xs q,
    fun b o u q => by rw [upd_ne (ne_of_none (I.base.frzs b o u q) na)]; exact I.base.frzs b o u q,
    fun b ps q => by
      obtain ⟨more, e⟩ := I.base.tbls b ps q
      exact ⟨more, by rw [upd_ne (ne_of_none e na)]; exact e⟩⟩
  loc := I.loc
  cell := I.cell
  free := by rw [upd_ne (fun z => nL z.symm)]; exact I.free
  freeC := fun x c e => by
    obtain ⟨v, hv⟩ := I.cell x c e
    rw [upd_ne (fun z => by
      subst z
      obtain ⟨o, e1, e2⟩ := hv
      rw [ha] at e1; cases e1
      rw [hd] at e2; cases e2)]
    exact I.freeC x c e
  pin := fun p hp => by
    obtain ⟨h1, h2, h3⟩ := I.pin p hp
    exact ⟨h1, by rw [upd_ne (hP p hp)]; exact h2, h3⟩
  hok := I.hok.laidN (fun _ _ z => z) na (exT_ok ha hz hd)
  len := I.len
theorem dropQ {a : Addr} {q : Addr × Obj} (I : Inv (X.suite a (q :: (X.pn ++ pins))) [] σ H s) : Inv (X.suite a (X.pn ++ pins)) [] σ H s :=
  ⟨I.ok.suite _ _, I.os, I.bare, I.base, I.loc, I.cell, I.free, I.freeC, fun p hp => I.pin p (by
    rcases List.mem_append.mp hp with h | h
    · exact List.mem_append_left _ (List.mem_cons_of_mem _ h)
    · exact List.mem_append_right _ h), I.hok, I.len⟩
theorem unsuiteT {a : Addr} {pn' : List (Addr × Obj)} (I : Inv (X.suite a (X.pn ++ pins)) pn' σ H s) (ok : X.Ok) : Inv X pins σ H s :=
  ⟨ok, I.os, I.bare, I.base, I.loc, I.cell, I.free, I.freeC, fun p hp => I.pin p (List.mem_append_left _ hp), I.hok, I.len⟩
end
/-- what the clause 'except x as n' wishes of an exception of the body, where the suite knows the exception -/
def wKept (K : PySem.W.Frag) (c : Value) (i : Nat) (ts : TS) (Wout : WX) (D : Ends) : WX := fun cls d σ H =>
  ∃ b, PySem.W.exmOne K cls c = some b ∧ (b = true → ∀ a, H a = none → ts { nx := fun σ' H' => D.nx (σ'.set i none) H', rt := D.rt, bk := fun σ' H' => D.bk (σ'.set i none) H', ct := fun σ' H' => D.ct (σ'.set i none) H' } (σ.set i (some (.ref a))) (upd H a (ExT cls d a))) ∧
    (b = false → Wout cls d σ H)
section
variable {X : Cx} {x n : Str} {c : Value} {i : Nat} {body suite : List Stmt} {b₀ : Stmt} {np pos pos' : Pos} {tb : WX → TS} {ts : TS} {Wout : WX}
theorem ps_try_kept (hx0 : X.ex = []) (hs : X.stack = X.env :: X.outer) (hf : X.env.frame = some X.env.locals) (hN : X.N.Nodup) (hi : X.N[i]? = some n) (hln : X.env.kindOf n = some .local) (hc : Names X x c) (tk : Takes X Wout)
    (hb : ∀ (W : WX) (pn : List (Addr × Obj)) (xe : Value → Shared → Prop), Takes (X.tr pn xe) W → PassesOwn (model X.prog X.w) X.A X.env xe → PSs (X.tr pn xe) body (tb W))
    (hsu : ∀ (a : Addr) (pn : List (Addr × Obj)), PSs (X.suite a pn) (b₀ :: suite) ts) :
    PS X (.Try body [.ExceptHandler (some (.Name x np)) (some n) (b₀ :: suite) pos'] [] [] pos) (fun D σ H => tb (wKept X.K c i ts Wout D) D σ H) := by
  refine ⟨fun pins s σ H D I h => ?_⟩
  have ok := I.ok
  have hfr : X.A.frames = some (X.env :: X.outer) := by rw [ok.frames, hs]
  have hloc : Loc X.env.scope n := .inl hln
  refine wpAny_Try_except ?_
  refine wpAny_mono ((hb (wKept X.K c i ts Wout D) (X.pn ++ pins) (fun e s₁ => wpAny (model X.prog X.w) X.A (noteFrame e X.env) (fun _ s₂ => wpAny (model X.prog X.w) X.A (setFlight e none) (fun _ s₃ =>
    wpAny (model X.prog X.w) X.A (handleBy e X.env [.ExceptHandler (some (.Name x np)) (some n) (b₀ :: suite) pos']) (SP X pins D) X.xe s₃) X.xe s₂) X.xe s₁) (fun u s' xx => ?_) PassesOwn.looking).run [] s σ H D (I.toTry _) h) (fun f s1 hsp => ?_) (fun e s1 he => he)
  · -- the catch
    obtain ⟨a, B, sI, pins', σ', H', cls, d, rfl, J', nb, up, sky, na, os, ag, b, hb1, hyes, hno⟩ := xx
    have J : Inv X pins σ' H' sI := J'.ofTry ok
    have sky' : Sky B (X.env :: X.outer) a (Zc cls d) X.env.locals s'.heap := by rw [← hs]; exact sky
    show wpAny (model X.prog X.w) X.A (noteFrame (.ref a) X.env) _ _ _
    refine Sky.land Zc.steady hfr hf sky' fun h3 fl3 up3 => ?_
    have J3 : Inv X pins σ' H' { s' with heap := h3 } := J.landed nb fl3.1 (up.trans up3) os ag
    obtain ⟨oe3, vs3, he3, hz3, hd3⟩ := fl3.there
    have notFr : ∀ {h : Heap} {o : Obj} {vs : Array Value}, h.FunFrames B (X.env :: X.outer) → h.get? a = some o → o.data = .fields vs → a ∉ L2.frs (X.env :: X.outer) := fun {h o vs} ff e dd hm => by
      obtain ⟨_, o', e', hnf⟩ := ff.mem hm
      rw [e] at e'; cases e'
      exact hnf _ dd
    have nfr := notFr fl3.2.2.1 he3 hd3
    have nL : a ≠ X.env.locals := fun z => nfr (List.mem_filterMap.mpr ⟨X.env, List.mem_cons_self, by rw [hf, z]⟩)
    have nF : a ∉ X.fs := fun hm => by
      obtain ⟨e, he, q⟩ := List.mem_filterMap.mp hm
      exact nfr (List.mem_filterMap.mpr ⟨e, List.mem_cons_of_mem _ he, q⟩)
    have S3 := J3.suite he3 hd3 na nL nF
    refine wpAny_handleBy_cons (codeAny_handlers_test ?_) (by intro q; cases q)
    have LT : PySem.W.Looks (model X.prog X.w) h3 (typeOf (.ref a)) cls := fun A Q E s k q => wpAny_typeOf_ref (k _ _ he3) (by rw [hz3.1]; exact q)
    have LM := PySem.W.exm_one (M := model X.prog X.w) (J3.kIn) LT hb1
    have test : ∀ {Q : Value → Shared → Prop} {E : Value → Shared → Prop}, Q c { s' with heap := h3 } → wpAny (model X.prog X.w) (X.A.mark (some (.ref a))) (eval (.Name x np) X.env) Q E { s' with heap := h3 } := fun {Q E} q => by
      obtain ⟨hg, hdbg, hm | ⟨hm, hv, hnn⟩⟩ := hc
      · exact ld_glob (X := X.suite a ((a, oe3) :: (X.pn ++ pins))) S3 hg hm q hdbg
      · exact ld_blt (X := X.suite a ((a, oe3) :: (X.pn ++ pins))) S3 hg hm hv q hnn hdbg
    refine test (LM.here ?_)
    cases b with
    | true =>
      refine codeAny_handlers_suite_as ?_
      refine HandSPX.lands_againZ fl3 fun h4 fl4 up4 => ?_
      have J4 : Inv X pins σ' H' { s' with heap := h4 } := J.landed nb fl4.1 ((up.trans up3).trans up4) os ag
      obtain ⟨oe4, vs4, he4, hz4, hd4⟩ := fl4.there
      have S4 := J4.suite he4 hd4 na nL nF
      refine store_ok (X := X.suite a ((a, oe4) :: (X.pn ++ pins))) (v := .ref a) S4 hN hi hloc rfl (fun s5 S5 => ?_) (.inr hln)
      have hbn : B.get? a = none := fl4.2.1
      have h0 : X.s_0.heap.get? a = none := by
        cases q : X.s_0.heap.get? a with
        | none => rfl
        | some o =>
          obtain ⟨o', e'⟩ := J.base.there a o q (by rw [hx0]; exact List.not_mem_nil)
          have := nb a o' e' (by rw [hs]; exact nfr)
          rw [hbn] at this; cases this
      have hP : ∀ p ∈ X.pn ++ pins, p.1 ≠ a := fun p hp z => by
        have := nb p.1 p.2 (J.pin p hp).1 (by rw [hs, z]; exact nfr)
        rw [z, hbn] at this; cases this
      have T5 : Inv (X.suite a (X.pn ++ pins)) [] (σ'.set i (some (.ref a))) (upd H' a (ExT cls d a)) s5 := by
        have h5 := S5.pin (a, oe4) (List.mem_append.mpr (.inl List.mem_cons_self))
        exact track (dropQ S5) h5.1 hd4 hz4 h5.2.1 nL (fun p hp => hP p (by rw [List.append_nil] at hp; exact hp)) h0
      refine wpAny_mono ((hsu a (X.pn ++ pins)).run [] s5 _ _ _ T5 (hyes rfl a na)) (fun f s6 hsp => ?_) (fun _ _ z => False.elim z)
      have end_ : ∀ {σ6 : L2.St} {H6 : Hp} {Q : Shared → Prop}, Inv (X.suite a (X.pn ++ pins)) [] σ6 H6 s6 → (∀ s7, Inv X pins (σ6.set i none) H6 s7 → Q s7) →
          wpAny (model X.prog X.w) X.A (do bindName X.env n .none; unbindBehindTheSuite X.env n pos') (fun _ s7 => Q s7) X.xe s6 := fun {σ6 H6 Q} S6 hq => gone_ok (unsuiteT S6 ok) hN hi hln hq
      cases f with
      | next =>
        obtain ⟨σ6, H6, S6, q6⟩ := hsp
        exact end_ S6 fun s7 J7 => ⟨_, _, J7, q6⟩
      | brk =>
        obtain ⟨σ6, H6, S6, q6⟩ := hsp
        exact end_ S6 fun s7 J7 => ⟨_, _, J7, q6⟩
      | cont =>
        obtain ⟨σ6, H6, S6, q6⟩ := hsp
        exact end_ S6 fun s7 J7 => ⟨_, _, J7, q6⟩
      | ret u =>
        obtain ⟨v6, σ6, H6, S6, r6, q6⟩ := hsp
        exact end_ S6 fun s7 J7 => ⟨_, _, _, J7, r6, q6⟩
    | false =>
      show wpAny _ X.A (handleBy (.ref a) X.env []) _ _ _
      refine wpAny_handleBy_nil ?_
      obtain ⟨k1, k2, k3, oe, vs, T, oT, ts', he, hz, hd, h1, hr⟩ := id fl3
      unfold PySem.passOn
      refine wpAny_bind (wpAny_field he hd h1 ?_)
      rw [if_neg (show ¬ ((Value.ref T == Value.none) = true) from by simp)]
      have fin : wpAny (model X.prog X.w) X.A (setFlight (.ref a) X.env.frame) (fun _ s4 => wpAny (model X.prog X.w) X.A (throw (.ref a) : Sem Flow) (SP X pins D) X.xe s4) X.xe { s' with heap := h3 } := by
        rw [hf]
        refine HandSPX.setFlight_upZ fl3 fun h4 hh4 up4 => wpAny_throw (tk _ _ ?_)
        exact ⟨a, B, sI, pins, σ', H', cls, d, rfl, J, nb, (up.trans up3).trans up4, .inr (.inr (by rw [hs]; exact hh4)), na, os, ag, hno rfl⟩
      first
        | exact wpAny_bind (wpAny_pure (wpAny_bind fin))
        | exact wpAny_bind fin
  · cases f with
    | next =>
      obtain ⟨σ', H', J', q⟩ := hsp
      exact wpAny_execs_nil ⟨σ', H', J'.ofTry ok, q⟩
    | brk =>
      obtain ⟨σ', H', J', q⟩ := hsp
      exact ⟨σ', H', J'.ofTry ok, q⟩
    | cont =>
      obtain ⟨σ', H', J', q⟩ := hsp
      exact ⟨σ', H', J'.ofTry ok, q⟩
    | ret u =>
      obtain ⟨v, σ', H', J', r, q⟩ := hsp
      exact ⟨v, σ', H', J'.ofTry ok, r, q⟩
end
end DL

/-! try over data; isinstance of an exception that is held. -/
namespace DL
open PySem PySem.Spec PyProof.Rows L2
/-! ### statements of the def itself: no temps, no slots locked but its own call's -/
def LS0 (K : PySem.W.Frag) (B : Ba) (lk : List Nat) (t : DTS) : TS := fun D σ H => ∃ st D0, (∀ p ∈ B.L0, p.1 ∈ lk) ∧ Rel K B B.L0 st [] σ [] H ∧ t D0 st ∧ EndsOk K B B.L0 [] [] D0 D
abbrev DS0 (X : Cx) (B : Ba) (lk : List Nat) (s : Stmt) (t : DTS) : Prop := PS X s (LS0 X.K B lk t)
abbrev DSs0 (X : Cx) (B : Ba) (lk : List Nat) (s : List Stmt) (t : DTS) : Prop := PSs X s (LS0 X.K B lk t)
theorem ls0_ls {K : PySem.W.Frag} {B : Ba} {lk : List Nat} {t : DTS} {D : Ends} {σ : L2.St} {H : Hp} (h : LS0 K B lk t D σ H) : LS K B lk t D σ H := by
  obtain ⟨st, D0, L, R, h, k⟩ := h
  exact ⟨B.L0, st, [], [], D0, ⟨L, fun p hp => hp⟩, fun i hi => absurd hi List.not_mem_nil, R, h, k⟩
section
variable {X : Cx} {B : Ba} {lk : List Nat} {s : Stmt} {rest : List Stmt} {t u : DTS}
theorem ds0_of (h : DS X B lk s t) : DS0 X B lk s t := PS.weak h fun _ _ _ q => ls0_ls q
theorem dss0_cons (h1 : DS0 X B lk s t) (h2 : DSs0 X B lk rest u) : DSs0 X B lk (s :: rest) (cSeq t u) := PSs.weak (pss_cons h1 h2) fun D σ H ⟨st, D0, L, R, h, k⟩ =>
  ⟨st, _, L, R, h, ⟨fun st' σ' H' q R' => ⟨st', D0, L, R', q, k⟩, k.rt, k.bk, k.ct⟩⟩
theorem dss0_one (h1 : DS0 X B lk s t) : DSs0 X B lk [s] t := pss_one h1
theorem dss0_nox {b : List Stmt} (h : DSs0 X.nox B lk b t) : DSs0 X B lk b t := PSs.nox h
theorem takes_nox : Takes X.nox (fun _ _ _ _ => False) := fun _ _ ⟨_, _, _, _, _, _, _, _, _, _, _, _, _, _, _, _, z⟩ => z.elim
end
/-! ### try -/
theorem RelX.wipe0 {K : PySem.W.Frag} {B : Ba} {lv : List (Nat × V)} {st : List Vl} {σ : L2.St} {H : Hp} {F : Addr → Prop} {O : Addr → Option Ow} {i : Nat} (R : RelX K B lv st [] σ [] H F O) (hl : ∀ p ∈ lv, p.1 ≠ i) : RelX K B lv (st.set i .gone) [] (σ.set i none) [] H F O := by
  refine ⟨by rw [List.length_set, List.length_set]; exact R.len, fun j d e => ?_, trivial, R.fo, R.oh, R.fh, R.fr, R.mi, R.f0, R.f1, fun p hp => by rw [List.getElem?_set_ne (Ne.symm (hl p hp))]; exact R.lk p hp⟩
  by_cases q : i = j
  · subst q
    by_cases hi : i < st.length
    · rw [List.getElem?_set_self hi] at e; cases e; exact .inl rfl
    · rw [List.getElem?_eq_none (by rw [List.length_set]; exact Nat.not_lt.mp hi)] at e; cases e
  · rw [List.getElem?_set_ne q] at e
    rw [List.getElem?_set_ne q]
    exact R.sl j d e
/-- try: .. except X as n: ..; L: the classes that the body may raise -/
def cTry (i : Nat) (L : List Str) (tb : (Xn → List Vl → Prop) → DTS) (ts : DTS) : DTS := fun D st =>
  tb (fun x st' => x.at_ = none ∧ x.cls ∈ L ∧ i < st'.length ∧ ts { nx := fun s => D.nx (s.set i .gone), rt := D.rt, bk := fun s => D.bk (s.set i .gone), ct := fun s => D.ct (s.set i .gone) } (st'.set i (.exn x.cls))) D st
section
variable {X : Cx} {B : Ba} {lk : List Nat} {x n : Str} {c : Value} {i : Nat} {body suite : List Stmt} {b₀ : Stmt} {np pos pos' : Pos} {tb : (Xn → List Vl → Prop) → DTS} {ts : DTS} {L : List Str}
theorem ds_try (hx0 : X.ex = []) (hs : X.stack = X.env :: X.outer) (hf : X.env.frame = some X.env.locals) (hN : X.N.Nodup) (hi : X.N[i]? = some n) (hln : X.env.kindOf n = some .local) (hc : Names X x c) (tk : Takes X (fun _ _ _ _ => False)) (hl : lk.contains i = false)
    (hex : ∀ x ∈ L, PySem.W.exmOne X.K (.ref (He.ga X.K x)) c = some true)
    (hb : ∀ (EX : Xn → List Vl → Prop) (pn : List (Addr × Obj)) (xe : Value → Shared → Prop), Takes (X.tr pn xe) (WD X.K X.mg B EX) → PassesOwn (model X.prog X.w) X.A X.env xe → DSs (X.tr pn xe) B lk body (tb EX))
    (hsu : ∀ (a : Addr) (pn : List (Addr × Obj)), DSs (X.suite a pn) B lk (b₀ :: suite) ts) :
    DS0 X B lk (.Try body [.ExceptHandler (some (.Name x np)) (some n) (b₀ :: suite) pos'] [] [] pos) (cTry i L tb ts) := by
  refine PS.weak (ps_try_kept (i := i) (tb := fun W D σ H => ∃ EX, (∀ cls d σ H, WD X.K X.mg B EX cls d σ H → W cls d σ H) ∧ LS X.K B lk (tb EX) D σ H) (ts := LS X.K B lk ts) hx0 hs hf hN hi hln hc tk
    (fun W pn xe tw po => ⟨fun pins s σ H D I ⟨EX, hW, h⟩ => (hb EX pn xe (tw.imp hW) po).run pins s σ H D I h⟩) hsu) fun D σ H ⟨st, D0, Lk0, R, h, k⟩ => ?_
  have hn : i ∉ lk := fun z => by rw [List.contains_iff_mem.mpr z] at hl; cases hl
  have hnl : ∀ p ∈ B.L0, p.1 ≠ i := fun p hp z => hn (z ▸ Lk0 p hp)
  refine ⟨_, fun cls d σ' H' wd => ?_, ls0_ls ⟨st, D0, Lk0, R, h, k⟩⟩
  obtain ⟨xn, lv, st', tm, tv, F, O, hL, R', ⟨hcls, hat⟩, h1, h2, h3, h4⟩ := wd
  rw [h1] at hat
  have hat' : d = none := hat
  subst hat' hcls
  refine ⟨true, hex _ h2, fun _ a ha => ?_, fun z => by cases z⟩
  have R1 : RelX X.K B B.L0 st' [] σ' [] H' F O := ⟨R'.len, R'.sl, trivial, R'.fo, R'.oh, R'.fh, R'.fr, R'.mi, R'.f0, R'.f1, fun p hp => R'.lk p (hL p hp)⟩
  have R2 : Rel X.K B B.L0 st' [.exn xn.cls] σ' [.ref a] (upd H' a (ExT (.ref (He.ga X.K xn.cls)) none a)) := ⟨F, O, (R1.new ha).push (d := .exn xn.cls) ⟨a, rfl, upd_same⟩⟩
  have R3 := R2.store (i := i) (fun j z => by cases z) h3 (fun z => absurd z List.not_mem_nil) hnl
  refine ⟨B.L0, _, [], [], _, ⟨Lk0, fun p hp => hp⟩, fun i hi => absurd hi List.not_mem_nil, R3, h4, ⟨fun s1 σ1 H1 q ⟨F1, O1, r⟩ => ?_, fun d1 s1 v1 σ1 H1 q r => k.rt _ _ _ _ _ q r, fun s1 σ1 H1 q ⟨F1, O1, r⟩ => ?_, fun s1 σ1 H1 q ⟨F1, O1, r⟩ => ?_⟩⟩
  · exact k.nx _ _ _ q ⟨F1, O1, r.wipe0 hnl⟩
  · exact k.bk _ _ _ q ⟨F1, O1, r.wipe0 hnl⟩
  · exact k.ct _ _ _ q ⟨F1, O1, r.wipe0 hnl⟩
end
/-! ### isinstance of an exception that is held -/
/-- is the class x one of c? -/
def exSub (x c : Str) : Bool := decide (x = c) || (decide (c = "PointError") || decide (c = "ValueError"))
/-- what is known of the classes L of the program's own exceptions -/
structure ExL (K : PySem.W.Frag) (mg : Str → Option Value) (L : List Str) : Prop where
  cl : ∀ x ∈ L, ExcC K (He.ga K x)
  glo : ∀ x ∈ L, mg x = some (.ref (He.ga K x))
  pr : ∀ x ∈ L, ∀ c ∈ L, PySem.W.kitOne K (.ref (He.ga K x)) (.ref (He.ga K c)) = some (exSub x c)
  ve : ∀ x ∈ L, PySem.W.kitOne K (.ref (He.ga K x)) (.type "ValueError") = some true
  ex : ∀ x ∈ L, PySem.W.exmOne K (.ref (He.ga K x)) (.ref (He.ga K "PointError")) = some true
theorem ExL.sub {K : PySem.W.Frag} {mg : Str → Option Value} {L M : List Str} (h : ExL K mg L) (s : ∀ x ∈ M, x ∈ L) : ExL K mg M :=
  ⟨fun x hx => h.cl x (s x hx), fun x hx => h.glo x (s x hx), fun x hx c hc => h.pr x (s x hx) c (s c hc), fun x hx => h.ve x (s x hx), fun x hx => h.ex x (s x hx)⟩
def rIsX (K : PySem.W.Frag) : List V → Hp → VK → Prop := fun xs H Q => ∃ (a D : Addr) (c : V) (u : Value) (b : Bool), xs = [.ref a, c] ∧ H a = some (ExT (.ref D) none a) ∧ ExcC K D ∧ ClsV c u ∧ PySem.W.kitOne K (.ref D) u = some b ∧ Q (.bl b) H
def rIsXT (K : PySem.W.Frag) : List V → Hp → VK → Prop := fun xs H Q => ∃ (a D tp : Addr) (cs : List V) (us : List Value) (b : Bool), xs = [.ref a, .ref tp] ∧ H a = some (ExT (.ref D) none a) ∧ ExcC K D ∧ H tp = some (.tup cs) ∧ Paired ClsV cs us ∧ PySem.W.kitAny K (.ref D) us = some b ∧ Q (.bl b) H
theorem inst_of {P : Program} {w : World} {H : Hp} {h : Heap} {a D : Addr} (e : ObjOk P w H h a (ExT (.ref D) none a)) : ∃ oe, PySem.W.InstAt h a oe D none := by
  obtain ⟨⟨oe, vs, e1, e2, e3⟩, _⟩ := e
  refine ⟨oe, ?_⟩
  obtain ⟨oc, od, oda, osl⟩ := oe
  obtain ⟨h1, h2⟩ := e2
  dsimp only at h1 h2 e3
  subst h1 h2 e3
  exact ⟨e1, rfl, rfl, trivial⟩
section
variable {X : Cx}
theorem call_isX : CallR X (.builtin "isinstance") (rIsX X.K) := by
  intro pins s σ H xs us Q I r h
  obtain ⟨a, D, c, u, b, rfl, ha, C, k, e, q⟩ := h
  obtain ⟨u1, u2, rfl, r1, r2⟩ := vals2 r
  have e2 := k.eq r2
  subst e2
  cases (show u1 = Value.ref a from r1)
  obtain ⟨oe, J⟩ := inst_of (I.hok a _ ha)
  exact PySem.W.kia_one (PySem.W.handS_kitx_exc C.hg C.hk C.hs C.hd C.ha C.hn C.ht C.hm) I.kIn J e (fun z => nomatch z) fun tk => ⟨.bl b, H, I.tok tk, rfl, q⟩
theorem call_isXT : CallR X (.builtin "isinstance") (rIsXT X.K) := by
  intro pins s σ H xs us Q I r h
  obtain ⟨a, D, tp, cs, ws, b, rfl, ha, C, hT, k, e, q⟩ := h
  obtain ⟨u1, u2, rfl, r1, r2⟩ := vals2 r
  cases (show u1 = Value.ref a from r1)
  cases (show u2 = Value.ref tp from r2)
  obtain ⟨oe, J⟩ := inst_of (I.hok a _ ha)
  obtain ⟨_, its, rv, o, h1, h2, n, h3⟩ := (show ObjOk X.prog X.w H s.heap tp (.tup cs) from I.hok tp _ hT)
  have e3 := ClsV.all k rv
  subst e3
  obtain ⟨oc, od, dt, sl⟩ := o
  simp only at h2 h3
  subst h2 h3
  exact PySem.W.kia_tup (PySem.W.handS_kitx_exc C.hg C.hk C.hs C.hd C.ha C.hn C.ht C.hm) I.kIn J h1 e (fun z => nomatch z) fun tk => ⟨.bl b, H, I.tok tk, rfl, q⟩
end
def cIsX (L : List Str) (cs : List Str) (t : DT) : DT := fun st Q => t st fun d st1 => match d with
  | .exn x => x ∈ L ∧ Q (.fr (.bool (cs.any (exSub x)))) st1
  | _ => False
def tCl (K : PySem.W.Frag) (cs : List Str) : TA := fun _ H Q => Q (cs.map fun c => V.ref (He.ga K c)) H
section
variable {X : Cx} {B : Ba} {lk : List Nat} {e : Expr} {es : List Expr} {t : DT} {p p2 p3 pos : Pos} {c : Str} {cs L : List Str}
theorem pa_cl0 : PA X [] (tCl X.K []) := pa_nil
theorem pa_cl (hL : ExL X.K X.mg L) (hm : c ∈ L) (hg : Gl X c) (h : PA X es (tCl X.K cs)) (hd : (c == ("__debug__" : Str)) = false := by decide) (na : starEach (.Name c p :: es) X.env = (false, eval (.Name c p) X.env) :: starEach es X.env := by rfl) : PA X (.Name c p :: es) (tCl X.K (c :: cs)) :=
  pa_cons (pe_glob hg (hL.glo c hm) (show RelV (.ref (He.ga X.K c)) (.ref (He.ga X.K c)) from rfl) hd) h na
theorem cl_paired {K : PySem.W.Frag} : ∀ cs : List Str, Paired ClsV (cs.map fun c => V.ref (He.ga K c)) (cs.map fun c => Value.ref (He.ga K c))
  | [] => .nil
  | c :: cs => .cons (.own _) (cl_paired cs)
theorem kitAny_of {K : PySem.W.Frag} {mg : Str → Option Value} {x : Str} (h : ExL K mg L) (hx : x ∈ L) : ∀ cs : List Str, (∀ c ∈ cs, c ∈ L) → PySem.W.kitAny K (.ref (He.ga K x)) (cs.map fun c => Value.ref (He.ga K c)) = some (cs.any (exSub x))
  | [], _ => rfl
  | c :: cs, hc => by
    have h1 := h.pr x hx c (hc c List.mem_cons_self)
    have h2 := kitAny_of h hx cs fun d hd => hc d (List.mem_cons_of_mem _ hd)
    rw [List.map_cons, List.any_cons, PySem.W.kitAny, h1]
    cases exSub x c with
    | true => rfl
    | false => rw [Bool.false_or]; exact h2
theorem de_isX (hL : ExL X.K X.mg L) (hm : c ∈ L) (hgc : Gl X c) (hg : Gl X "isinstance") (hmi : X.mg "isinstance" = none) (he : DE X B lk e t) (hd : (c == ("__debug__" : Str)) = false := by decide)
    (hs : starEach [e, .Name c p2] X.env = (false, eval e X.env) :: starEach [.Name c p2] X.env := by rfl) (hs2 : starEach [.Name c p2] X.env = (false, eval (.Name c p2) X.env) :: starEach [] X.env := by rfl) (hpl : (backTo pos (starEach [.Name c p2] X.env)).any (·.1) = false := by rfl) :
    DE X B lk (.Call (.Name "isinstance" p) [e, .Name c p2] [] pos) (cIsX L [c] t) :=
  PE.weak (pe_callB call_isX hg hmi boot_isinstance (pa_cons he (pa_cons (pe_glob hgc (hL.glo c hm) (show RelV (.ref (He.ga X.K c)) (.ref (He.ga X.K c)) from rfl) hd) pa_nil hs2) hs) (by decide) (by decide) hs hpl) fun σ H Q ⟨lv, st, tm, tv, Q0, L0, R, h, k⟩ => by
    refine ⟨lv, st, tm, tv, _, L0, R, h, fun d st1 v H1 q R1 => ?_⟩
    split at q
    · rename_i x
      obtain ⟨hx, q⟩ := q
      have R2 := R1.pop
      obtain ⟨F, O, R1⟩ := R1
      obtain ⟨a, rfl, ha⟩ := R1.top (d := .exn x) (fun i z => by cases z)
      refine ⟨a, _, _, _, _, rfl, ha, hL.cl x hx, .own _, hL.pr x hx c hm, ?_⟩
      rw [List.any_cons, List.any_nil, Bool.or_false] at q
      exact k _ _ _ _ q (R2.bl _)
    · exact q.elim
theorem de_isVE (hL : ExL X.K X.mg L) (hgc : Gl X "ValueError") (hmc : X.mg "ValueError" = none) (hg : Gl X "isinstance") (hmi : X.mg "isinstance" = none) (he : DE X B lk e t)
    (hs : starEach [e, .Name "ValueError" p2] X.env = (false, eval e X.env) :: starEach [.Name "ValueError" p2] X.env := by rfl) (hs2 : starEach [.Name "ValueError" p2] X.env = (false, eval (.Name "ValueError" p2) X.env) :: starEach [] X.env := by rfl) (hpl : (backTo pos (starEach [.Name "ValueError" p2] X.env)).any (·.1) = false := by rfl) :
    DE X B lk (.Call (.Name "isinstance" p) [e, .Name "ValueError" p2] [] pos) (cIsX L ["ValueError"] t) :=
  PE.weak (pe_callB call_isX hg hmi boot_isinstance (pa_cons he (pa_cons (pe_bltn hgc hmc (show bootBuiltins "ValueError" = some (.type "ValueError") from by kernel_rfl) (show RelV (.ty "ValueError") (.type "ValueError") from rfl) (by decide) (by decide)) pa_nil hs2) hs) (by decide) (by decide) hs hpl) fun σ H Q ⟨lv, st, tm, tv, Q0, L0, R, h, k⟩ => by
    refine ⟨lv, st, tm, tv, _, L0, R, h, fun d st1 v H1 q R1 => ?_⟩
    split at q
    · rename_i x
      obtain ⟨hx, q⟩ := q
      have R2 := R1.pop
      obtain ⟨F, O, R1⟩ := R1
      obtain ⟨a, rfl, ha⟩ := R1.top (d := .exn x) (fun i z => by cases z)
      refine ⟨a, _, _, _, _, rfl, ha, hL.cl x hx, .ty _, hL.ve x hx, ?_⟩
      have e : exSub x "ValueError" = true := by unfold exSub; simp
      rw [List.any_cons, List.any_nil, Bool.or_false, e] at q
      exact k _ _ _ _ q (R2.bl _)
    · exact q.elim
theorem de_isXT {x1 tp} (hL : ExL X.K X.mg L) (hm : ∀ c ∈ cs, c ∈ L) (hT : PA X es (tCl X.K cs)) (hg : Gl X "isinstance") (hmi : X.mg "isinstance" = none) (he : DE X B lk e t) (hlen : cs.length ≤ sizeLine)
    (hs : starEach [e, .Tuple es x1 tp] X.env = (false, eval e X.env) :: starEach [.Tuple es x1 tp] X.env := by rfl) (hs2 : starEach [.Tuple es x1 tp] X.env = (false, eval (.Tuple es x1 tp) X.env) :: starEach [] X.env := by rfl) (hpl : (backTo pos (starEach [.Tuple es x1 tp] X.env)).any (·.1) = false := by rfl) :
    DE X B lk (.Call (.Name "isinstance" p) [e, .Tuple es x1 tp] [] pos) (cIsX L cs t) :=
  PE.weak (pe_callB call_isXT hg hmi boot_isinstance (pa_cons he (pa_cons (pe_tup hT) pa_nil hs2) hs) (by decide) (by decide) hs hpl) fun σ H Q ⟨lv, st, tm, tv, Q0, L0, R, h, k⟩ => by
    refine ⟨lv, st, tm, tv, _, L0, R, h, fun d st1 v H1 q R1 => ?_⟩
    split at q
    · rename_i x
      obtain ⟨hx, q⟩ := q
      refine ⟨by rw [List.length_map]; exact hlen, fun tq htq => ?_⟩
      have R2 := R1.pop
      obtain ⟨F, O, R1⟩ := R1
      obtain ⟨a, rfl, ha⟩ := R1.top (d := .exn x) (fun i z => by cases z)
      have ne : a ≠ tq := fun z => by rw [z, htq] at ha; cases ha
      refine ⟨a, _, tq, _, _, _, rfl, by rw [upd_ne ne]; exact ha, hL.cl x hx, upd_same, cl_paired cs, kitAny_of hL hx cs hm, ?_⟩
      obtain ⟨F', O', R2⟩ := R2
      exact k _ _ _ _ q (Rel.bl ⟨F', O', R2.new htq⟩ _)
    · exact q.elim
/-- the Bool that says it of K -/
def exB (L : List Str) (K : PySem.W.Frag) : Bool := L.all fun x =>
  decide (PySem.W.findIn K (.ref (He.ga K x)) "__getattribute__" = some (some (.builtin "BaseException.__getattribute__"))) &&
  (decide (PySem.W.findIn K (.ref (He.ga K x)) "__getattr__" = some none) &&
  (decide (PySem.W.subIn K (.ref (He.ga K x)) (.type "BaseException") = some true) &&
  (PySem.W.hasDictIn K (He.ga K x) &&
  (decide (PySem.W.findIn K (.ref (He.ga K x)) "__class__" = some (some (.builtin "object.__class__"))) &&
  (decide (PySem.W.specialIn K (.builtin "object.__class__") "__get__" = some (some (.builtin "getset_descriptor.__get__"))) &&
  (decide (PySem.W.takesIn K (.builtin "object.__class__") = some true) &&
  (decide (PySem.W.mroIn K (He.ga K x) (.type "object") = some true) &&
  (decide (PySem.W.nsIn K mainGlobals x = some (some (.ref (He.ga K x)))) &&
  (decide (PySem.W.kitOne K (.ref (He.ga K x)) (.type "ValueError") = some true) &&
  (decide (PySem.W.exmOne K (.ref (He.ga K x)) (.ref (He.ga K "PointError")) = some true) &&
  L.all fun c => decide (PySem.W.kitOne K (.ref (He.ga K x)) (.ref (He.ga K c)) = some (exSub x c))))))))))))
theorem exL_of {K : PySem.W.Frag} {h : Heap} {mg : Str → Option Value} (In : K.In h) (G : h.Ns mainGlobals mg) (hb : exB L K = true) : ExL K mg L := by
  have key : ∀ x ∈ L, _ := fun x hx => List.all_eq_true.mp hb x hx
  simp only [Bool.and_eq_true, decide_eq_true_eq] at key
  exact ⟨fun x hx => by
      obtain ⟨h1, h2, h3, h4, h5, h6, h7, h8, _⟩ := key x hx
      exact ⟨h1, h2, h3, h4, h5, h6, h7, h8⟩,
    fun x hx => by
      obtain ⟨_, _, _, _, _, _, _, _, h9, _⟩ := key x hx
      exact PySem.W.mg_of In G h9,
    fun x hx c hc => by
      obtain ⟨_, _, _, _, _, _, _, _, _, _, _, h12⟩ := key x hx
      exact of_decide_eq_true (List.all_eq_true.mp h12 c hc),
    fun x hx => by
      obtain ⟨_, _, _, _, _, _, _, _, _, h10, _⟩ := key x hx
      exact h10,
    fun x hx => by
      obtain ⟨_, _, _, _, _, _, _, _, _, _, h11, _⟩ := key x hx
      exact h11⟩
end
end DL

/-! Defs that catch: their promise; what never raises of what may; the head's facts of classes; count and index of truths; the steps. -/
namespace DL
open PySem PySem.Spec PyProof.Rows L2
section
variable {P : Program} {w : World} {K : PySem.W.Frag} {mg : Str → Option Value} {base : Heap} {CX : CXT} {k : Nat} {x qual : Str} {params : Arguments} {body : List Stmt} {scope : Scope} {dvs : List V} {kws : List (Str × V)} {f : Addr} {fd : FuncData}
theorem def_run0 {N ps : List Str} {lk : List Nat} {n : Nat} {S : VSp} (F : FunD K x qual params body scope dvs kws f fd) (Sc : FnScope N ps scope) (hn : ps.length = n) (hN : n ≤ N.length)
    (t : DTS) (hbody : ∀ (cdv : Value) (A : Around) (outer : List Env) (s : Shared) (H : Hp) (E : XK) (B : Ba), Room k (A.deeper (envOfC qual scope s.heap.objs.size f cdv)) → A.guards = some [] → DSs0 (cxOf CX P w K mg base N qual scope f cdv A outer s H E) B lk body t)
    (read : ∀ ds Q0 E0, S ds Q0 E0 → t (dEnds Q0) (ds ++ List.replicate (N.length - n) .gone)) : FnG P w K mg base CX (k + 1) f fd ps (spV K mg lk n S) := by
  refine fn_ofG F Sc (fun vs H Q E h => h.1.trans hn.symm) fun cdv A outer s H vs Q E hr hgd h => ?_
  obtain ⟨hl, F0, O0, ds, Q0, E0, pre, hS, kQ, kE⟩ := h
  let B : Ba := ⟨H, fun a => O0 a ≠ none, F0, lvs lk vs⟩
  refine ⟨_, hbody cdv A outer s H E B hr hgd, ?_⟩
  have hlen : ds.length = n := pre.len.trans hl
  have hs : ∀ i v, vs[i]? = some v → (start N vs)[i]? = some (some v) := fun i v e => by
    have hi := (List.getElem?_eq_some_iff.mp e).1
    unfold L2.start
    rw [List.getElem?_append_left (by rw [List.length_map]; exact hi), List.getElem?_map, e]; rfl
  have R : RelX K B (lvs lk vs) (ds ++ List.replicate (N.length - n) .gone) [] (start N vs) [] H F0 (fun a => (O0 a).map Sum.inl) := by
    refine ⟨?_, fun i d e => ?_, (trivial : True), fun a fa => ?_, fun a w e => ?_, pre.fh, fun a o e _ => e, fun a w e => ?_, fun a fa => fa, fun a fa => .inl fa, fun p hp => hs _ _ (lvs_in hp).2⟩
    · unfold L2.start
      rw [List.length_append, List.length_append, List.length_map, List.length_replicate, List.length_replicate, hlen, hl]
    · by_cases hi : i < ds.length
      · rw [List.getElem?_append_left hi] at e
        have hv : i < vs.length := by rw [hl, ← hlen]; exact hi
        rcases pre.av i d _ e (List.getElem?_eq_getElem hv) with z | z
        · exact .inl z
        · exact .inr ⟨_, hs i _ (List.getElem?_eq_getElem hv), z⟩
      · rw [List.getElem?_append_right (Nat.not_lt.mp hi), List.getElem?_replicate] at e
        split at e
        · cases e; exact .inl rfl
        · cases e
    · rw [pre.fo a fa]; rfl
    · obtain ⟨i, ei, _⟩ := Option.map_eq_some_iff.mp e
      exact pre.oh a i ei
    · obtain ⟨i, ei, _⟩ := Option.map_eq_some_iff.mp e
      exact .inl (show O0 a ≠ none by rw [ei]; exact fun z => nomatch z)
  -- behind the body
  have post : ∀ st' σ' (tm : List Vl) (tv : List V) H' F' O', RelX K B (lvs lk vs) st' tm σ' tv H' F' O' → Post K F0 O0 vs H lk st' H' F' O' := fun st' σ' tm tv H' F' O' R' =>
    ⟨fun i hi d v e1 e2 => by
      rcases R'.sl i d e1 with z | ⟨u, h1, h2⟩
      · exact .inl z
      · have := R'.lk _ (lvs_of hi e2)
        rw [h1] at this
        cases this
        exact .inr h2,
    R'.fo, R'.oh, R'.fh, fun a o e n => R'.fr a o e (fun z => z n), fun a w e => R'.mi a w e, R'.f0, fun a fa => by
      rcases R'.f1 a fa with z | z | z
      · exact .inl z
      · exact .inr (.inl z)
      · exact .inr (.inr z)⟩
  refine ⟨_, dEnds Q0, fun p hp => (lvs_in hp).1, ⟨F0, _, R⟩, read ds Q0 E0 hS, ⟨fun st' σ' H' q ⟨F', O', R'⟩ => ?_, fun d st' v σ' H' q ⟨F', O', R'⟩ => ?_, fun _ _ _ z => z.elim, fun _ _ _ z => z.elim⟩⟩
  · exact kQ (.fr .none) st' .non H' F' O' q (post _ _ _ _ _ _ _ R') .non
  · exact kQ d st' v H' F' O' q.2 (post _ _ _ _ _ _ _ R') (R'.top q.1)
end
/-- a def that may raise, where its exceptions are ruled out -/
def nxS (S : VSp) : VSp := fun ds Q _ => S ds Q fun _ _ => False
theorem Def.calm {P : Program} {w : World} {K : PySem.W.Frag} {mg : Str → Option Value} {base : Heap} {k : Nat} {x : Str} {lk : List Nat} {n : Nat} {S : VSp} (d : Def P w K mg base (L2.CX P w) k x lk n S) : Def P w K mg base CX0 k x lk n (nxS S) := by
  obtain ⟨f, fd, ps, hm, F, b, kp⟩ := d.ex
  have key : ∀ {vs H Q E}, spV K mg lk n (nxS S) vs H Q E → spV K mg lk n S vs H Q (fun _ _ _ => False) := fun {vs H Q E} ⟨h1, F0, O0, ds, Q0, E0, pre, hS, kQ, kE⟩ =>
    ⟨h1, F0, O0, ds, Q0, fun _ _ => False, pre, hS, kQ, fun _ _ _ _ _ _ _ z => z.elim⟩
  refine ⟨f, fd, ps, hm, ⟨fun vs H Q E h => F.len _ _ _ _ (key h), fun A outer s H args us vs Q E hr hgd e0 hb r h => codeAny_mono (F.run A outer s H args us vs Q _ hr hgd e0 hb r (key h)) fun r s' hq => ?_⟩, b, kp⟩
  match r, hq with
  | .error e, ⟨_, _, _, _, _, _, _, _, _, _, _, _, z⟩ => exact z.elim
  | .ok (.ret u), hq => exact hq
  | .ok .next, hq => exact hq
  | .ok .brk, hq => exact hq
  | .ok .cont, hq => exact hq
/-! ### the head's facts of classes -/
/-- the class x of exceptions, by the head's fact -/
theorem excG_of {K : PySem.W.Frag} {mg : Str → Option Value} {x : Str} (hm : mg x = some (.ref (He.ga K x))) (c : (He.Fa.exc x).ok K = true) : ExcG K mg x := by
  obtain ⟨h1, h2⟩ := He.ba (show (PySem.W.excIn K (He.ga K x) He.veBase "ValueError.__new__" && (PySem.W.keepIn K (.ref (He.ga K x)) && (decide (PySem.W.subIn K (.ref (He.ga K x)) (.type "BaseException") = some true) && decide (PySem.W.typeIn K (.ref (He.ga K x)) = some (.type "type"))))) = true from c)
  obtain ⟨h3, h4⟩ := He.ba h2
  obtain ⟨h5, h6⟩ := He.ba h4
  exact ⟨_, _, _, _, hm, PySem.F.excBase_ValueError, h1, h3, of_decide_eq_true h5, of_decide_eq_true h6⟩
/-! ### count and index of truths -/
def rCntB (K : PySem.W.Frag) : V → List V → Hp → VK → Prop := fun x xs H Q => ∃ (a : Addr) (vs : List V) (ds : List PyData) (k : Bool), x = .ref a ∧ xs = [.bl k] ∧ SqL K H a vs ∧ DqAll K H vs ds ∧ ds.all Shape.bool.has = true ∧ Q (.int (countIn (.bool k) ds)) H
theorem mt_cntB {X : Cx} : MtR X "list.count" (rCntB X.K) := by
  intro pins s σ H x xs v us Q I rx rxs h
  obtain ⟨a, vs, ds, k, rfl, rfl, hs, hd, hall, q⟩ := h
  cases rx
  cases rxs with
  | cons ry rt =>
    cases rt
    cases ry
    obtain ⟨its, rv, ⟨⟨cls, dd, data, sl⟩, n, ho, hc, hdn, hd'⟩, hlen⟩ := I.list hs
    obtain ⟨as, h4⟩ := Dq.readsAll I ds _ its (ndA_of fun x hx => by
      have := List.all_eq_true.mp hall x hx
      cases x <;> first | rfl | (simp [Shape.has] at this)) hd rv
    exact count_list_bools (l := a) (vs := its) ⟨_, ho, hc, n, hd'⟩ h4 hall ⟨.int _, H, I.tok _, ⟨_, rfl⟩, q⟩
def cCntB (b : Bool) (to : DT) : DT := fun st Q => to st fun d st1 => ∃ bs : List Bool, pyO st1 d = some (.list (bs.map .bool)) ∧ Q (.fr (.int ((bs.countP (· == b) : Nat) : Int))) st1
def cIdxB (b : Bool) (to : DT) : DT := fun st Q => to st fun d st1 => ∃ (bs : List Bool) (j : Nat), pyO st1 d = some (.list (bs.map .bool)) ∧ bs[j]? = some b ∧ (∀ (m : Nat) (z : Bool), m < j → bs[m]? = some z → z ≠ b) ∧ Q (.fr (.int (j : Nat))) st1
theorem count_bools (b : Bool) : ∀ bs : List Bool, countIn (.bool b) (bs.map PyData.bool) = ((bs.countP (· == b) : Nat) : Int)
  | [] => rfl
  | c :: bs => by
    rw [List.map_cons, countIn, List.countP_cons, count_bools b bs]
    simp only [same]
    rcases Bool.eq_false_or_eq_true (c == b) with hb | hb <;> simp only [hb, Bool.false_eq_true, if_true, if_false] <;> push_cast <;> omega
theorem all_bools : ∀ bs : List Bool, (bs.map PyData.bool).all Shape.bool.has = true
  | [] => rfl
  | b :: bs => by
    rw [List.map_cons, List.all_cons, all_bools bs, Bool.and_true]; rfl
section
variable {X : Cx} {B : Ba} {lk : List Nat} {o e : Expr} {to te : DT} {apos cpos p2 : Pos} {b : Bool} {j2 : Option Str}
theorem de_countB {j2} (ho : DE X B lk o to) (hbase : attributeBase o "count" X.env (eval o X.env) = eval o X.env := by rfl)
    (hfew : ((backTo cpos (starEach [.Constant (.bool b) j2 p2] X.env)).all (fun x => !x.1) && (backToKw cpos (keywordEach [] X.env)).all (fun x => x.1.isSome)
      && decide ([Expr.Constant (.bool b) j2 p2].length + ([] : List Keyword).length + (if ([] : List Keyword).isEmpty then 0 else 1) < 30)) = true := by rfl)
    (hline : (apos.endLine == cpos.line) = true := by rfl) (hs : starEach [.Constant (.bool b) j2 p2] X.env = (false, eval (.Constant (.bool b) j2 p2) X.env) :: starEach [] X.env := by rfl) (hplain : (backTo cpos (starEach [] X.env)).any (·.1) = false := by rfl) :
    DE X B lk (.Call (.Attribute o "count" apos) [.Constant (.bool b) j2 p2] [] cpos) (cCntB b to) :=
  PE.weak (pe_bm PySem.F.plainAttrs_list PySem.F.slot_list_count PySem.F.type_list_count mt_cntB ho (pa_cons pe_bl pa_nil hs) hbase hfew hline hs hplain) fun σ H Q ⟨lv, st, tm, tv, Q0, L, R, h, k⟩ => by
    refine ⟨lv, st, tm, tv, _, L, R, h, fun d st1 v H1 q1 R1 => ?_⟩
    obtain ⟨bs, e1, q⟩ := q1
    obtain ⟨F, O, R2⟩ := R1
    obtain ⟨a, vs, rfl, h, r⟩ := R2.lst e1
    refine ⟨.inl ⟨rfl, vs, h⟩, a, vs, bs.map .bool, b, rfl, rfl, h, RpA.dp _ _ r, all_bools bs, ?_⟩
    rw [count_bools]
    exact k _ _ _ _ q ⟨F, O, R2.pop.push (d := .fr (.int _)) (.int _)⟩
theorem de_indexB {j2} (ho : DE X B lk o to) (hbase : attributeBase o "index" X.env (eval o X.env) = eval o X.env := by rfl)
    (hfew : ((backTo cpos (starEach [.Constant (.bool b) j2 p2] X.env)).all (fun x => !x.1) && (backToKw cpos (keywordEach [] X.env)).all (fun x => x.1.isSome)
      && decide ([Expr.Constant (.bool b) j2 p2].length + ([] : List Keyword).length + (if ([] : List Keyword).isEmpty then 0 else 1) < 30)) = true := by rfl)
    (hline : (apos.endLine == cpos.line) = true := by rfl) (hs : starEach [.Constant (.bool b) j2 p2] X.env = (false, eval (.Constant (.bool b) j2 p2) X.env) :: starEach [] X.env := by rfl) (hplain : (backTo cpos (starEach [] X.env)).any (·.1) = false := by rfl) :
    DE X B lk (.Call (.Attribute o "index" apos) [.Constant (.bool b) j2 p2] [] cpos) (cIdxB b to) :=
  PE.weak (pe_bm PySem.F.plainAttrs_list PySem.F.slot_list_index PySem.F.type_list_index mt_index ho (pa_cons pe_bl pa_nil hs) hbase hfew hline hs hplain) fun σ H Q ⟨lv, st, tm, tv, Q0, L, R, h, k⟩ => by
    refine ⟨lv, st, tm, tv, _, L, R, h, fun d st1 v H1 q1 R1 => ?_⟩
    obtain ⟨bs, j, e1, h1, h2, q⟩ := q1
    obtain ⟨F, O, R2⟩ := R1
    obtain ⟨a, vs, rfl, h, r⟩ := R2.lst e1
    obtain rfl := r.bools
    refine ⟨.inl ⟨rfl, _, h⟩, a, bs.map V.bl, .bl b, j, .bl b, rfl, rfl, h, rfl, by rw [List.all_map]; exact List.all_eq_true.mpr fun x _ => rfl, by rw [List.getElem?_map, h1]; rfl, by simp [eqV], fun m z' hm hz => ?_, k _ _ _ _ q ⟨F, O, R2.pop.push (d := .fr (.int _)) (.int _)⟩⟩
    rw [List.getElem?_map] at hz
    obtain ⟨z, hz2, rfl⟩ := Option.map_eq_some_iff.mp hz
    have := h2 m z hm hz2
    simp [eqV, this]
end
/-! ### the steps -/
section
variable {st st' : List Vl} {Q : Vl → List Vl → Prop} {D : DEnds} {to ta : DT} {d : Vl} {EX : Xn → List Vl → Prop} {lk : List Nat} {S : VSp} {x : Str} {L cs : List Str}
theorem s_varX (e : st[i]? = some (.exn x)) (h : Q (.exn x) st) : cVar i st Q := by unfold cVar; rw [e]; exact h
theorem s_isNX (h : Q (.fr (.bool false)) st) : gIsN false st (.exn x) (.fr .none) Q := h
def ClX (lk : List Nat) (S : VSp) (EX : Xn → List Vl → Prop) (ds st1 : List Vl) (Q : Vl → List Vl → Prop) : Prop := S (ds.map (res st1)) (fun r ds' => UpK ds' ds st1 (Q r)) fun x ds' => UpK ds' ds st1 (EX x)
theorem s_callX {tr : DTA} (h : tr st fun ds st1 => okB lk 0 ds = true ∧ ClX lk S EX ds st1 Q) : cCallX lk S EX tr st Q := h
theorem s_clx {ds : List Vl} (e : okB lk 0 ds = true) (h : ClX lk S EX ds st Q) : okB lk 0 ds = true ∧ ClX lk S EX ds st Q := ⟨e, h⟩
theorem s_raise (h : EX ⟨x, none⟩ st) : cRaise x EX D st := h
/-- what the clause wishes -/
def TrK (i : Nat) (L : List Str) (ts : DTS) (D : DEnds) (x : Xn) (st' : List Vl) : Prop := x.at_ = none ∧ x.cls ∈ L ∧ i < st'.length ∧ ts { nx := fun s => D.nx (s.set i .gone), rt := D.rt, bk := fun s => D.bk (s.set i .gone), ct := fun s => D.ct (s.set i .gone) } (st'.set i (.exn x.cls))
theorem s_try {i : Nat} {tb : (Xn → List Vl → Prop) → DTS} {ts : DTS} (h : tb (TrK i L ts D) D st) : cTry i L tb ts D st := h
theorem s_trk {i : Nat} {ts : DTS} (hx : x ∈ L) (hi : i < st.length) (e : st.set i (.exn x) = st') (h : ts { nx := fun s => D.nx (s.set i .gone), rt := D.rt, bk := fun s => D.bk (s.set i .gone), ct := fun s => D.ct (s.set i .gone) } st') : TrK i L ts D ⟨x, none⟩ st := by
  subst e; exact ⟨rfl, hx, hi, h⟩
def IsXK (L cs : List Str) (Q : Vl → List Vl → Prop) : Vl → List Vl → Prop := fun d st1 => match d with
  | .exn x => x ∈ L ∧ Q (.fr (.bool (cs.any (exSub x)))) st1
  | _ => False
theorem s_isX {t : DT} (h : t st (IsXK L cs Q)) : cIsX L cs t st Q := h
theorem s_isXT (hx : x ∈ L) (e : cs.any (exSub x) = true) (h : Q (.fr (.bool true)) st) : IsXK L cs Q (.exn x) st := ⟨hx, by rw [e]; exact h⟩
theorem s_isXF (hx : x ∈ L) (e : cs.any (exSub x) = false) (h : Q (.fr (.bool false)) st) : IsXK L cs Q (.exn x) st := ⟨hx, by rw [e]; exact h⟩
theorem s_cntB {b : Bool} (h : to st fun d st1 => ∃ bs : List Bool, pyO st1 d = some (.list (bs.map .bool)) ∧ Q (.fr (.int ((bs.countP (· == b) : Nat) : Int))) st1) : cCntB b to st Q := h
theorem s_idxB {b : Bool} (h : to st fun d st1 => ∃ (bs : List Bool) (j : Nat), pyO st1 d = some (.list (bs.map .bool)) ∧ bs[j]? = some b ∧ (∀ (m : Nat) (z : Bool), m < j → bs[m]? = some z → z ≠ b) ∧ Q (.fr (.int (j : Nat))) st1) : cIdxB b to st Q := h
end
end DL

/-! The layer of one point more. -/
namespace DL
open PySem PySem.Spec PyProof.Rows L2
section
variable {ps : List (List Int)} {z : List Int}
end
end DL

/-! xs[lo:hi:c] of whole numbers: some list of xs's numbers. The rows of pe_slk follow the library's rule for xs[::-1]. -/
namespace DL
open PySem PySem.Spec PyProof.Rows L2
def pickI (n : Nat) (lo hi : Option Int) (c : Int) : List Nat := sliceRange (sliceBounds lo hi (some c) n).1 (sliceBounds lo hi (some c) n).2.1 (sliceBounds lo hi (some c) n).2.2
def pickV {α : Type} (xs : List α) (is : List Nat) : List α := is.filterMap fun i => xs[i]?
theorem vals_pick {xs : List V} {us : List Value} (r : Vals xs us) : ∀ is : List Nat, Vals (pickV xs is) (pickV us is)
  | [] => .nil
  | i :: is => by
    unfold pickV
    rw [List.filterMap_cons, List.filterMap_cons]
    cases e : xs[i]? with
    | none =>
      have : us[i]? = none := by
        rw [List.getElem?_eq_none_iff] at e ⊢
        rw [← r.length]; exact e
      rw [this]
      exact vals_pick r is
    | some x =>
      obtain ⟨u, h1, h2⟩ := r.get e
      rw [h1]
      exact .cons h2 (vals_pick r is)
theorem pick_arr (us : List Value) (lo hi : Option Int) (c : Int) : slicePick us.toArray lo hi (some c) = (pickV us (pickI us.length lo hi c)).toArray := by
  unfold slicePick pickV pickI
  rw [List.size_toArray]
  simp
theorem pick_len (us : List Value) (lo hi : Option Int) (c : Int) : (pickV us (pickI us.length lo hi c)).length ≤ us.length := by
  have h := slicePick_size_le us.toArray lo hi (some c)
  rw [pick_arr, List.size_toArray, List.size_toArray] at h
  exact h
def tSlk (K : PySem.W.Frag) (te : TE) (tl th : TO) (c : Int) : TE := fun σ H Q => te σ H fun x H1 => tl σ H1 fun l H2 => th σ H2 fun u H3 => ∃ a xs, x = .ref a ∧ SqL K H3 a xs ∧ ∀ p, H3 p = none → Q (.ref p) (upd H3 p (.lst (pickV xs (pickI xs.length l u c))))
section
variable {X : Cx}
theorem pe_slk {e : Expr} {lo hi : Option Expr} {te : TE} {tl th : TO} {c : Int} {k p1 p3 pos} (hc : c ≠ 0) (he : PE X e te) (hl : PO X lo tl) (hu : PO X hi th) : PE X (.Subscript e (.Slice lo hi (some (.Constant (.int c) k p1)) p3) pos) (tSlk X.K te tl th c) := by
  refine ⟨fun pins s σ H Q I h => ?_⟩
  refine Subscript_ (thn (he.run pins s σ H _ I h) fun v s1 ⟨x, H1, I1, r1, q1⟩ => ?_)
  have hst : PO X (some (.Constant (.int c) k p1)) (tPart (tC (.int c))) := po_some pe_int
  refine wpAny_Slice (thn (hl.run pins s1 σ H1 _ I1 q1) fun vl s2 ⟨l, H2, I2, pl, q2⟩ => thn (hu.run pins s2 σ H2 _ I2 q2) fun vu s3 ⟨u, H3, I3, pu, q3⟩ => ?_)
  refine thn (hst.run pins s3 σ H3 (fun o H4 => o = some c ∧ H4 = H3) I3 ⟨c, rfl, rfl, rfl⟩) fun vs s4 ⟨o, H4, I4, ps, eo, e4⟩ => ?_
  subst eo e4
  obtain ⟨a, xs, ex, hx, q⟩ := q3
  subst ex
  cases r1
  have I5 : Inv X pins σ H4 { s4 with heap := s4.heap.push { cls := .type "slice", data := .fields #[vl, vu, vs] } } := I4.kept (t' := s4.toks) fun b ob q => Heap.get?_push_of_some _ q
  obtain ⟨its, r, ht, hz⟩ := I5.list hx
  have hlen := r.length
  show wpAny (model X.prog X.w) X.A (subscriptTail e (.Slice lo hi (some (.Constant (.int c) k p1)) p3) (.ref a) (.ref s4.heap.objs.size)) (EP X pins σ Q) X.xe { s4 with heap := s4.heap.push { cls := .type "slice", data := .fields #[vl, vu, vs] } }
  refine tail_any (ops := [.ref a, .ref s4.heap.objs.size]) ht.isList.typeIs (PySem.slot_list_getitem.lookup) ?_ (by with_unfolding_all rfl)
  refine wpAny_getItem_list_slice ht.isList (Heap.IsSliceOf.new _ vl vu vs) pl pu ps (fun z => hc (Option.some.inj z)) ?_ (by rw [List.size_toArray]; omega)
  rw [pick_arr]
  have hpl := pick_len its l u c
  refine ⟨.ref _, _, I5.laid (t' := s4.toks) (o := .lst (pickV xs (pickI xs.length l u c))) (fun b ob q => Heap.get?_push_of_some _ q) (Nat.le_refl _) ?_, rfl, q _ (I5.hok.fresh (Nat.le_refl _))⟩
  have rp := vals_pick r (pickI its.length l u c)
  rw [hlen]
  exact ⟨by rw [rp.length]; omega, _, 0, rp, Heap.get?_push_size _ rfl⟩
end
section
variable {X : Cx} {B : Ba} {lk : List Nat} {e : Expr} {te : DT} {lo hi : Option Expr} {tl th : DTO} {c : Int}
end
end DL

/-! Defs that are called where an exception is handled, too: they raise nothing, try nothing. -/
namespace DL
open PySem PySem.Spec PyProof.Rows L2
abbrev RoomW := L2H.RoomH
structure FnW (P : Program) (w : World) (K : PySem.W.Frag) (mg : Str → Option Value) (base : Heap) (CX : CXT) (k : Nat) (f : Addr) (fd : FuncData) (ps : List Str) (sp : Sp) : Prop where
  len : ∀ vs H Q E, sp vs H Q E → vs.length = ps.length
  run : ∀ (A : Around) (outer : List Env) (s : Shared) (H : Hp) (args : Args) (us : List Value) (vs : List V) (Q : VK) (E : XK), RoomW k A → A.guards = some [] → Env0 P w K mg base A outer s H → BindsTo s fd args (ps.zip us) → Vals vs us → sp vs H Q E →
    codeAny (model P w) A (.call (.ref f) args) (CR CX outer P w H s Q E) s
section
variable {P : Program} {w : World} {K : PySem.W.Frag} {mg : Str → Option Value} {base : Heap} {CX : CXT} {k : Nat} {x qual : Str} {params : Arguments} {body : List Stmt} {scope : Scope} {dvs : List V} {kws : List (Str × V)} {f : Addr} {fd : FuncData}
end
structure DefW (P : Program) (w : World) (K : PySem.W.Frag) (mg : Str → Option Value) (base : Heap) (CX : CXT) (k : Nat) (x : Str) (lk : List Nat) (n : Nat) (S : VSp) : Prop where
  ex : ∃ f fd ps, mg x = some (.ref f) ∧ FnW P w K mg base CX k f fd ps (spV K mg lk n S) ∧ Binds K fd ps [] ∧ PySem.W.keepIn K (.ref f) = true
section
variable {X : Cx} {B : Ba} {CX : CXT} {k j n : Nat} {f : Addr} {fd : FuncData} {ps : List Str} {sp : Sp} {E : XK} {x : Str} {p pos : Pos} {e : Expr} {es : List Expr} {ta : TA} {t : DTA} {lk lk' : List Nat} {S : VSp}
end
end DL

/-! Corners: a spot beyond a corner. -/
namespace DL
open PySem PySem.Spec PyProof.Rows L2
/-- the classes of refusals, in the laws' order -/
abbrev kinds : List Str := ["NoMeasures", "NoPoint", "NoKin", "TooMany", "NoNumber", "NoCorners", "NoDeed", "NoWindow", "NoWeights", "NoOrder", "NoRow", "NoLot", "NoTable", "NoLoss", "NoLine", "NoText"]
end DL

/-! Comprehensions that draw. Who stands for whom within a loss; the deck of the laws about losses. -/
namespace DL
open PySem PySem.Spec PyProof.Rows L2
def stands (xs ys : List Int) (v : Int) : Bool := (xs.zip ys).all fun p => decide (p.2 ≤ p.1 + v)
end DL

/-! Rising numbers of a book; lots. -/
namespace DL
open PySem PySem.Spec PyProof.Rows L2
/-! ### witnesses -/
theorem getD2 {p : List Int} (h : p.length = 2) : p = [p.getD 0 0, p.getD 1 0] := by
  match p, h with
  | [a, b], _ => rfl
end DL

/-! Books with bounded numbers; books joined, numbers chosen. -/
namespace DL
open PySem PySem.Spec PyProof.Rows L2
theorem ahead_of {bs : List Bool} {j : Nat} (h : (bs.take j).all (fun b => !b) = true) : ∀ (m : Nat) (z : Bool), m < j → bs[m]? = some z → z ≠ true := fun m z hm e => by
  have : z ∈ bs.take j := List.mem_iff_getElem?.mpr ⟨m, by rw [List.getElem?_take_of_lt hm]; exact e⟩
  have := List.all_eq_true.mp h z this
  intro q
  subst q
  cases this
/-- what a thing's text takes -/
structure Sh (n : Nat) (d : PyData) : Prop where
  ok : d.showable = true
  len : d.shown.length ≤ n
/-! ### rising numbers by what they hold -/
end DL

/-! Lists of numbers that may follow one another, counted. -/
namespace DL
open PySem PySem.Spec PyProof.Rows L2
/-- how many lists of k more numbers go on from each -/
def gon (fo : List (List Nat)) : Nat → List Nat
  | 0 => List.replicate fo.length 1
  | k + 1 => fo.map fun s => (s.map fun j => (gon fo k).getD j 0).sum
/-- a graph without rounds -/
structure Fo (fo : List (List Nat)) : Prop where
  len : fo.length ≤ 1000
  small : ∀ s ∈ fo, s.length ≤ 1000
  inn : ∀ s ∈ fo, ∀ j ∈ s, j < fo.length
  ranked : ∃ r : Nat → Nat, (∀ i, r i ≤ 1000) ∧ ∀ i s, fo[i]? = some s → ∀ j ∈ s, r j < r i
section
variable {fo : List (List Nat)}
theorem gon_zero (r : Nat → Nat) (hr : ∀ i s, fo[i]? = some s → ∀ j ∈ s, r j < r i) : ∀ k i, r i < k → (gon fo k).getD i 0 = 0
  | 0, _, h => absurd h (Nat.not_lt_zero _)
  | k + 1, i, h => by
    rw [gon, List.getD_eq_getElem?_getD, List.getElem?_map]
    cases e : fo[i]? with
    | none => rfl
    | some s =>
      show (s.map fun j => (gon fo k).getD j 0).sum = 0
      have : ∀ j ∈ s, (gon fo k).getD j 0 = 0 := fun j hj => gon_zero r hr k j (by have := hr i s e j hj; omega)
      rw [List.map_congr_left this]
      clear this e
      induction s with
      | nil => rfl
      | cons a s ih => rw [List.map_cons, List.sum_cons, ih]
theorem sum_zero_of {l : List Nat} (h : ∀ i, l.getD i 0 = 0) : l.sum = 0 := by
  induction l with
  | nil => rfl
  | cons a l ih =>
    have h0 : a = 0 := h 0
    rw [List.sum_cons, ih (fun i => h (i + 1)), h0]
theorem gon_end (F : Fo fo) : ∃ L, L ≤ 1001 ∧ (∀ k, k < L → 0 < (gon fo k).sum) ∧ (gon fo L).sum = 0 := by
  obtain ⟨r, h0, hr⟩ := F.ranked
  have hz : (gon fo 1001).sum = 0 := sum_zero_of fun i => gon_zero r hr 1001 i (by have := h0 i; omega)
  have key : ∀ n, (gon fo n).sum = 0 → ∃ L, L ≤ n ∧ (∀ k, k < L → 0 < (gon fo k).sum) ∧ (gon fo L).sum = 0 := by
    intro n
    induction n using Nat.strongRecOn with
    | _ n ih =>
      intro hn
      by_cases h : ∃ k, k < n ∧ (gon fo k).sum = 0
      · obtain ⟨k, hk, e⟩ := h
        obtain ⟨L, h1, h2, h3⟩ := ih k hk e
        exact ⟨L, by omega, h2, h3⟩
      · exact ⟨n, Nat.le_refl _, fun k hk => by
          rcases Nat.eq_zero_or_pos (gon fo k).sum with e | e
          · exact absurd ⟨k, hk, e⟩ h
          · exact e, hn⟩
  exact key _ hz
end
/-- how long the longest list is -/
noncomputable def longest (fo : List (List Nat)) (F : Fo fo) : Nat := Classical.choose (gon_end F)
/-- a place among the lists that go on from some: there is one whose share it falls into -/
theorem share {w : Nat → Nat} : ∀ (s : List Nat) (p : Nat), p < (s.map w).sum → ∃ j ∈ s, ∃ q, q < w j ∧ True
  | [], p, h => absurd h (Nat.not_lt_zero _)
  | a :: s, p, h => by
    by_cases e : p < w a
    · exact ⟨a, List.mem_cons_self, p, e, trivial⟩
    · rw [List.map_cons, List.sum_cons] at h
      obtain ⟨j, hj, q, hq, _⟩ := share (w := w) s (p - w a) (by omega)
      exact ⟨j, List.mem_cons_of_mem _ hj, q, hq, trivial⟩
/-! ### rows of beating -/
def below (ps : List (List Int)) (i : Nat) : List Nat := (List.range ps.length).filter fun j => bt ps i j
end DL

/-! t < u and t >= u of tuples of whole numbers (the rows of op_geT follow the library's rule for <=). -/
namespace DL
open PySem PySem.Spec PyProof.Rows L2
def lexGe (ns ms : List Int) : Bool := Ob.lexAt (fun j => decide (ns.getD j 0 = ms.getD j 0)) (fun j => decide (ms.getD j 0 ≤ ns.getD j 0)) (decide (ms.length ≤ ns.length)) 0 (min ns.length ms.length)
def rGeT (K : PySem.W.Frag) : R2 := fun x y H Q => ∃ (a b : Addr) (ns ms : List Int), x = .ref a ∧ y = .ref b ∧ SqT K H a (ns.map V.int) ∧ SqT K H b (ms.map V.int) ∧ Q (.bl (lexGe ns ms)) H
theorem op_geT {X : Cx} (hu : X.A.units < cLine) : OpR X (compareOp .GtE) (rGeT X.K) := by
  intro pins s σ H x y v u Q I rx ry h
  obtain ⟨a, b, ns, ms, rfl, rfl, ha, hb, q⟩ := h
  cases rx
  cases ry
  obtain ⟨its, r1, p1, _⟩ := I.tuple ha
  obtain ⟨its2, r2, p2, _⟩ := I.tuple hb
  have i1 : IntsAre its ns := Vals.ints r1
  have i2 : IntsAre its2 ms := Vals.ints r2
  have e1 : its.toArray.size = ns.length := by rw [List.size_toArray]; exact i1.length
  have e2 : its2.toArray.size = ms.length := by rw [List.size_toArray]; exact i2.length
  have at1 : ∀ j (h1 : j < its.toArray.size), ∃ t, its.toArray[j] = .int (ns.getD j 0) t := fun j h1 => PyProof.Rows.IntsAre.int_at i1 _ _ (by simp at h1; simp [h1])
  have at2 : ∀ j (h1 : j < its2.toArray.size), ∃ t, its2.toArray[j] = .int (ms.getD j 0) t := fun j h1 => PyProof.Rows.IntsAre.int_at i2 _ _ (by simp at h1; simp [h1])
  have R := Ob.RcOp.tuples_ge (A := X.A) (s := s) (e := fun j => decide (ns.getD j 0 = ms.getD j 0)) (r := fun j => decide (ms.getD j 0 ≤ ns.getD j 0)) p1 p2 hu (fun j h1 h2 => by
    obtain ⟨t, et⟩ := at1 j h1
    obtain ⟨t', et'⟩ := at2 j h2
    rw [et, et']
    have z : (ns.getD j 0 == ms.getD j 0) = decide (ns.getD j 0 = ms.getD j 0) := by
      by_cases q : ns.getD j 0 = ms.getD j 0
      · rw [decide_eq_true q]; exact beq_iff_eq.mpr q
      · rw [decide_eq_false q]; exact beq_eq_false_iff_ne.mpr q
    rw [← z]
    exact SeqAt.EqAt.int_int _ _ _ _) (fun j h1 h2 _ => by
    obtain ⟨t, et⟩ := at1 j h1
    obtain ⟨t', et'⟩ := at2 j h2
    rw [et, et']
    exact Ob.RcOp.ge_int _ _ _ _)
  rw [e1, e2] at R
  have z : wpAny (model X.prog X.w) X.A (compareOp .GtE (.ref a) (.ref b)) (EP X pins σ Q) X.xe s := R X.prog X.w X.xe (EP X pins σ Q) ⟨.bl _, H, I, rfl, q⟩
  exact z
section
variable {K : PySem.W.Frag} {X : Cx} {B : Ba} {lk : List Nat} {a b : Expr} {ta tb : DT} {pos : Pos}
end
end DL

/-! Lots apart along the stair of two measures. -/
namespace DL
open PySem PySem.Spec PyProof.Rows L2
abbrev px (ps : List (List Int)) (i : Nat) : Int := (ps.getD i []).getD 0 0
abbrev py (ps : List (List Int)) (i : Nat) : Int := (ps.getD i []).getD 1 0
section
variable {ps : List (List Int)}
end
end DL

/-! sorted of a tuple (the rows follow the library's rules for a list). -/
namespace DL
open PySem PySem.Spec PyProof.Rows PySem.Calls L2
section
variable {prog : Program} {w : World} {A : Around} {E : Value → Shared → Prop} {s : Shared} {vs : List Value}
theorem collect_tup {l : Addr} {Q : List Value → Shared → Prop} (hl : s.heap.IsTuple l vs.toArray)
    (h : Q vs { s with heap := (s.heap.push (seqObj "list" #[] 0)).update s.heap.objs.size (Obj.mapSeq (· ++ vs.toArray)) }) (hsz : vs.length ≤ sizeLine) :
    wpAny (model prog w) A (collect (.ref l)) Q E s := by
  obtain ⟨o, ho, hc, n, hd⟩ := id hl
  unfold collect
  refine wpAny_bind (wpAny_runValue (codeAny_builtin entry_proto_collect' ?_))
  show wpAny _ _ (do again (.builtin "list.__iadd__" ⟨[← newList [], .ref l], []⟩)) _ _ s
  refine wpAny_bind (wpAny_newList (wpAny_pure ⟨Code.quiet_builtin _ (by decide +kernel), codeAny_builtin entry_list_iadd' ?_⟩))
  show wpAny _ _ (Builtin.List.listExtendWith (.ref s.heap.objs.size) (.ref l) (.ref s.heap.objs.size)) _ _ { s with heap := s.heap.push (seqObj "list" #[] 0) }
  unfold Builtin.List.listExtendWith
  have ho' : (s.heap.push (seqObj "list" #[] 0)).get? l = some o := Heap.get?_push_of_some _ ho
  refine wpAny_bind (wpAny_typeOf (T := "tuple") ⟨o, ho', hc⟩ ?_)
  have ht : (Value.type "tuple" == Value.type "tuple") = true := by rfl
  rw [if_pos (by rw [ht]; simp)]
  refine wpAny_bind (listItems_at ho' hd ?_)
  refine wpAny_bind (listItems_at (xs := #[]) (n := 0) (Heap.get?_push_size _ rfl) rfl ?_)
  rw [if_neg (by simp)]
  refine wpAny_bind (listUpdate_at (xs := #[]) (n := 0) (Heap.get?_push_size _ rfl) rfl ?_ (Nat.zero_le _) (by show (#[] ++ vs.toArray).size ≤ sizeLine + 1; simp only [Array.size_append, List.size_toArray, List.length_nil]; omega))
  refine wpAny_pure ?_
  show wpAny (model prog w) A (do
      let o ← load s.heap.objs.size
      match o.data with
      | .seq xs _ => pure xs.toList
      | _ => unsupported "internal:collect") Q E { s with heap := (s.heap.push (seqObj "list" #[] 0)).update s.heap.objs.size (Obj.mapSeq (· ++ vs.toArray)) }
  refine wpAny_bind (wpAny_load (get?_update_seq (Heap.get?_push_size _ rfl) _) ?_)
  show wpAny _ _ (pure ((#[] : Array Value) ++ vs.toArray).toList) Q E _
  rw [show ((#[] : Array Value) ++ vs.toArray).toList = vs by simp]
  exact wpAny_pure h
theorem sorted_of_tup {l : Addr} {kw : List (Str × Value)} {Q : Value → Shared → Prop} (hl : s.heap.IsTuple l vs.toArray) (hL : vs.length ≤ sizeLine) (ha1 : argsOk "sorted" ⟨[.ref l], kw⟩) (ha2 : ∀ x, argsOk "list.sort" ⟨[.ref x], kw⟩)
    (body : ∀ E' : Value → Shared → Prop, wpAny (model prog w) A.in1.in1 (Builtin.«list.sort» ⟨[.ref (s.heap.objs.size + 1)], kw⟩) (fun f s' => f = .done (.ret .none) ∧ Q (.ref (s.heap.objs.size + 1)) s') E' { s with heap := PySem.W.copyHeap s.heap vs }) :
    wpAny (model prog w) A (call (.builtin "sorted") [.ref l] kw) Q E s := by
  refine call_function_entry_kw kind_sorted plain_sorted entry_sorted ha1 ?_
  unfold Builtin.«sorted»
  refine wpAny_bind (m := checkCount "sorted" 1 1 _) (wpAny_pure ?_)
  refine wpAny_bind (collect_tup hl ?_ hL)
  refine wpAny_bind (wpAny_newList ?_ hL)
  have hsz : ((s.heap.push (seqObj "list" #[] 0)).update s.heap.objs.size (Obj.mapSeq (· ++ vs.toArray))).objs.size = s.heap.objs.size + 1 := by
    rw [Heap.size_update, size_push']
  show wpAny _ _ _ _ _ { s with heap := PySem.W.copyHeap s.heap vs }
  rw [hsz]
  refine wpAny_bind (wpAny_holding (wpAny_call_entry_kw slot_list_sort ⟨_, PySem.W.copyHeap_at s.heap vs, rfl⟩ entry_list_sort ?body (ha2 _)))
  case body =>
    show wpAny (model prog w) A.in1.in1 (Builtin.«list.sort» ⟨[.ref (s.heap.objs.size + 1)], kw⟩) _ _ _
    refine wpAny_mono (body _) (fun f s' hf => ?_) fun _ _ e => e
    obtain ⟨rfl, hq⟩ := hf
    exact ⟨_, rfl, wpAny_pure ⟨_, rfl, hq⟩⟩
theorem sorted_tup_vals {κ : PyProof.Rows.KeyKind} {l : Addr} {Q : Value → Shared → Prop} (hl : s.heap.IsTuple l vs.toArray) (S : PySem.W.SortsAt prog w A.in1.in1 { s with heap := PySem.W.sortingHeap (PySem.W.copyHeap s.heap vs) (s.heap.objs.size + 1) vs } κ vs) (hL : vs.length ≤ sizeLine)
    (h : Q (.ref (s.heap.objs.size + 1)) { s with heap := sortedAll s.heap vs (PySem.W.sortVals κ false vs vs).toArray }) : wpAny (model prog w) A (call (.builtin "sorted") [.ref l]) Q E s :=
  sorted_of_tup hl hL (args_sorted1 _) (fun _ => args_list_sort _) fun _ => PySem.W.list_sort_vals (s := { s with heap := PySem.W.copyHeap s.heap vs }) (PySem.W.copyHeap_at s.heap vs) S hL ⟨rfl, h⟩
theorem sorted_tup_data {β : Type} {bs : List β} {enc : β → PyData} {R : Value → β → Prop} {l : Addr} {Q : Value → Shared → Prop} (hl : s.heap.IsTuple l vs.toArray) (e : PySem.W.EachIs R vs bs) (er : PySem.W.EachIs (fun v b => ∃ as, Reads s.heap v (enc b) as) vs bs) (hal : PySem.W.AllAlike (bs.map enc)) (hk : PySem.W.Sortable (bs.map enc)) (hL : bs.length ≤ sizeLine)
    (hu : ∀ b, b ∈ bs → A.units + 2 + (enc b).depth < cLine) (h : ∀ out, out.length = bs.length → PySem.W.EachIs R out (bs.mergeSort (PySem.W.dataLe false enc)) → Q (.ref (s.heap.objs.size + 1)) { s with heap := sortedAll s.heap vs (List.toArray out) }) :
    wpAny (model prog w) A (call (.builtin "sorted") [.ref l]) Q E s := by
  have er' : PySem.W.EachIs (fun v b => ∃ as, Reads (PySem.W.sortingHeap (PySem.W.copyHeap s.heap vs) (s.heap.objs.size + 1) vs) v (enc b) as) vs bs := er.mono fun _ _ ⟨as, r⟩ => ⟨as, PyProof.Rows.Reads.keeps (fun _ _ => PySem.W.sorting_copy_old) r⟩
  exact sorted_tup_vals hl (PySem.W.SortsAt.data (s := { s with heap := PySem.W.sortingHeap (PySem.W.copyHeap s.heap vs) (s.heap.objs.size + 1) vs }) (PySem.W.each_map (R := fun v d => ∃ as, Reads (PySem.W.sortingHeap (PySem.W.copyHeap s.heap vs) (s.heap.objs.size + 1) vs) v d as) enc er') hal hk (PySem.W.bound_map hu)) (by rw [e.length]; exact hL)
    (h _ (by rw [PySem.W.sortVals_length false rfl]; exact e.length) (PySem.W.sortVals_data false e er' hal))
end
def rSortT (K : PySem.W.Frag) : List V → Hp → VK → Prop := fun vs H Q => ∃ (a : Addr) (xs : List V) (F : Addr → Prop) (ds : List PyData), vs = [V.ref a] ∧ SqT K H a xs ∧ RpA K F H xs ds ∧ PySem.W.AllAlike ds ∧ PySem.W.Sortable ds ∧ ds.all (dep 60) = true ∧
  ∀ ys p, RpA K F H ys (ds.mergeSort (PySem.W.dataLe false _root_.id)) → H p = none → Q (.ref p) (upd H p (.lst ys))
theorem cr_sortT {X : Cx} (hu : Un0 X) : CallR X (.builtin "sorted") (rSortT X.K) := by
  intro pins s σ H vs us Q I r h
  obtain ⟨a, xs, F, ds, rfl, hs, ra, hal, hso, hd, q⟩ := h
  obtain ⟨its, rv, hl, hz⟩ := I.tuple hs
  rw [Vals.ref1 r]
  have hlen := ra.length
  have e := eachIs_pairs ra rv
  have em : (xs.zip ds).map (fun b : V × PyData => b.2) = ds := map_zip_snd hlen
  have er : PySem.W.EachIs (fun u (b : V × PyData) => ∃ as, Reads s.heap u b.2 as) its (xs.zip ds) := (PySem.W.each_mem e).mono fun u b ⟨⟨z1, z2⟩, hb⟩ => Dq.reads I b.2 b.1 u (dep_nd 60 _ (List.all_eq_true.mp hd _ (List.of_mem_zip hb).2)) z2.dp z1
  refine sorted_tup_data (enc := fun b : V × PyData => b.2) hl e er (by rw [em]; exact hal) (by rw [em]; exact hso) (by rw [List.length_zip, ← hlen, Nat.min_self]; exact hz) (fun b hb => ?_) fun out ho eo => ?_
  · have hm : b.2 ∈ ds := by rw [← em]; exact List.mem_map.mpr ⟨b, hb, rfl⟩
    have := (dep_ok 60 b.2 (List.all_eq_true.mp hd _ hm)).2
    have hu' : X.A.units + 100 < cLine := hu
    omega
  · obtain ⟨ov, or⟩ := eachIs_un (fun _ _ z => z) eo
    have es : ((xs.zip ds).mergeSort (PySem.W.dataLe false fun b : V × PyData => b.2)).map (fun b : V × PyData => b.2) = ds.mergeSort (PySem.W.dataLe false _root_.id) := by
      have := List.map_mergeSort (r := PySem.W.dataLe false fun b : V × PyData => b.2) (s := PySem.W.dataLe false _root_.id) (f := fun b : V × PyData => b.2) (l := xs.zip ds) (fun _ _ _ _ => rfl)
      rw [this, em]
    rw [es] at or
    obtain ⟨ep, he'⟩ := PyProof.Rows.sortedAll_at s.heap its out.toArray
    have lo : (((xs.zip ds).mergeSort (PySem.W.dataLe false fun b : V × PyData => b.2)).map (fun b : V × PyData => b.1)).length ≤ sizeLine := by
      rw [List.length_map, List.length_mergeSort, List.length_zip, ← hlen, Nat.min_self]; exact hz
    exact ⟨.ref _, _, I.laid (t' := s.toks) (o := .lst _) (fun _ _ => PyProof.Rows.sortedAll_old) (Nat.le_succ _) ⟨lo, out, ep, ov, by simpa using he'⟩, rfl, q _ _ or (I.hok.fresh (Nat.le_succ _))⟩
def gSrtT : List Vl → Vl → (Vl → Prop) → Prop := fun st d Q => match pyO st d with
  | some (.tuple ds) => PySem.W.AllAlike ds ∧ PySem.W.Sortable ds ∧ ds.all (dep 60) = true ∧ Q (.ow (ds.mergeSort (PySem.W.dataLe false _root_.id)))
  | _ => False
section
variable {X : Cx} {B : Ba} {lk : List Nat} {e : Expr} {es : List Expr} {t : DTA} {p pos : Pos}
theorem gSrtT_ok {K : PySem.W.Frag} : F1Ok K B gSrtT (rSortT K) := fun lv st tm σ tv H d v Q0 Q F O R q k => by
  unfold gSrtT at q
  split at q
  · rename_i ds e
    obtain ⟨a, vs, rfl, h, r⟩ := R.tup e
    exact ⟨a, vs, F, ds, rfl, h, r, q.1, q.2.1, q.2.2.1, fun ys p r' hp => k _ _ _ q.2.2.2 ⟨F, _, R.pop.newLst hp r'⟩⟩
  · exact q.elim
theorem de_sortedT (hu : Un0 X) (hg : Gl X "sorted") (hm : X.mg "sorted" = none) (ha : DA X B lk (e :: es) t) (he : starEach (e :: es) X.env = (false, eval e X.env) :: starEach es X.env := by rfl) (hpl : (backTo pos (starEach es X.env)).any (·.1) = false := by rfl) :
    DE X B lk (.Call (.Name "sorted" p) (e :: es) [] pos) (cFn (g1 gSrtT) t) := de_fnB (cr_sortT hu) gSrtT_ok.ok hg hm boot_sorted ha (he := he) (hpl := hpl)
end
theorem s_srtTI {st : List Vl} {v : Vl} {QF : Vl → Prop} (xs : List Int) (e1 : pyO st v = some (pt xs)) (h : QF (.ow ((xs.mergeSort fun a b => decide (a ≤ b)).map .int))) : gSrtT st v QF := by
  unfold gSrtT
  rw [e1]
  exact ⟨alike_ints' xs, sortable_ints xs, dep_ints _ xs, by rw [sort_ints]; exact h⟩
end DL

/-! A word looked up in a display of texts; how two points stand, as a word. -/
namespace DL
open PySem PySem.Spec PyProof.Rows L2
section
variable {X : Cx} {B : Ba} {lk : List Nat} {i : Expr} {ti : DT} {pos pos' : Pos}
end

/-! ### how two points stand, as a word -/
def wordH (p q : List Int) : Str := if p = q then "like" else if isover p q = true then "beats" else if isover q p = true then "beaten" else "apart"
abbrev TT : List (Str × Str) := [("beats", "beaten"), ("beaten", "beats"), ("like", "like"), ("apart", "apart")]
theorem eq_at {p q : List Int} (h : p.length = q.length) : p = q ↔ ∀ k, k < p.length → p.getD k 0 = q.getD k 0 := by
  refine ⟨fun e k _ => by rw [e], fun z => List.ext_getElem h fun k h1 h2 => ?_⟩
  have := z k h1
  rwa [List.getD_eq_getElem?_getD, List.getElem?_eq_getElem h1, List.getD_eq_getElem?_getD, List.getElem?_eq_getElem h2] at this
def wr (ps : List (List Int)) (p : List Int) : List PyData := ps.map fun q => .str (wordH p q)
end DL

/-! min with a default; a walk over reversed(tuple). -/
namespace DL
open PySem PySem.Spec PyProof.Rows L2
section
variable {prog : Program} {w : World} {A : Around} {E : Value → Shared → Prop} {s : Shared} {a : Addr} {its : List Value} {ns : List Int} {Q : Value → Shared → Prop}
theorem cmpIn_ints_lt (H : Heap) (xs : Array (Int × Tok)) : CmpIn prog w A .Lt H (fun i v => (intItems xs)[i]? = some v) (fun i j => decide (numAt xs i < numAt xs j)) := fun i j vi vj s' Q E _ hi hj hq => by
  exact CmpOf.ints_lt (numAt xs) (fun _ _ => intItems_at) i j vi vj s' Q E hi hj hq
theorem minD_raw {d : Value} (hh : A.handled = none) (hl : s.heap.IsList a its.toArray) (hi : IntsAre its ns)
    (h0 : ns = [] → ∀ h' tk, (∀ b o, s.heap.get? b = some o → h'.get? b = some o) → Q d { s with heap := h', toks := tk })
    (h : ∀ h' tk M t', (∀ b o, s.heap.get? b = some o → h'.get? b = some o) → M ∈ ns → (∀ a, a ∈ ns → M ≤ a) → Q (.int M t') { s with heap := h', toks := tk }) : wpAny (model prog w) A (call (.builtin "min") [.ref a] [(Str.ofString "default", d)]) Q E s := by
  obtain ⟨xs, e⟩ := hi.allInts.items
  have hn : numsOf (intItems xs).toList = ns := by rw [← e]; exact hi.numsOf
  rw [nums_intItems] at hn
  subst hn
  rw [e] at hl
  have hsz : (intItems xs).size = xs.size := by simp [intItems]
  refine call_min_walkD (PySem.W.iter_listW (A := A.in1) hh hl fun s₂ e W st hfp hw hk => ?_)
  refine ⟨_, _, _, _, _, _, _, s.heap, _, rfl, W, st, hfp, hw, hk, fun hz s' m => ?_, fun hp => ⟨cmpIn_ints_lt s.heap xs, fun v s' hP m => ?_⟩⟩
  · obtain ⟨h', tk, rfl, hk'⟩ := PySem.W.moved_old e rfl m
    refine h0 ?_ h' tk hk'
    rw [hsz] at hz
    exact List.eq_nil_of_length_eq_zero (by rw [List.length_map, Array.length_toList]; exact hz)
  · obtain ⟨h', tk, rfl, hk'⟩ := PySem.W.moved_old e rfl m
    rw [hsz] at hP hp
    obtain ⟨t, rfl⟩ := intItems_at hP
    obtain ⟨h1, h2⟩ := argBest_lt (numAt xs) (xs.size - 1)
    refine h h' tk _ t hk' ?_ fun a ha => ?_
    · rw [numAt_eq]; exact PySem.getD_mem (by rw [List.length_map, Array.length_toList]; omega)
    · obtain ⟨j, hj, rfl⟩ := mem_getD ha
      rw [List.length_map, Array.length_toList] at hj
      rw [← numAt_eq]; exact h2 j (by omega)
end
section
variable {X : Cx} {B : Ba} {K : PySem.W.Frag} {lk : List Nat} {e d : Expr} {es : List Expr} {t : DTA} {ta td : DT} {p pos kpos : Pos}
/-- min(x, default=d): a list of whole numbers, perhaps empty -/
def rMinDf (K : PySem.W.Frag) : List V → List V → Hp → VK → Prop := fun vs zs H Q => ∃ (a : Addr) (ns : List Int) (d : Int), vs = [V.ref a] ∧ zs = [V.int d] ∧ SqL K H a (ns.map V.int) ∧ (ns = [] → Q (.int d) H) ∧ ∀ m, m ∈ ns → (∀ y, y ∈ ns → m ≤ y) → Q (.int m) H
theorem cr_minDf (hc : X.calm = true) : CallRK X (.builtin "min") ["default"] (rMinDf X.K) := by
  intro pins s σ H vs zs us ws Q I r rz h
  obtain ⟨a, ns, d, rfl, rfl, hs, q0, q⟩ := h
  rw [Vals.ref1 r]
  cases rz with
  | cons rz rn =>
    cases rn
    obtain ⟨t, rfl⟩ := rz
    obtain ⟨its, rv, hl, _⟩ := I.list hs
    exact minD_raw (I.ok.hd hc) hl.isList rv.ints (fun e h' tk hk => ⟨.int _, H, I.kept hk, ⟨_, rfl⟩, q0 e⟩) fun h' tk m t' hk h1 h2 => ⟨.int _, H, I.kept hk, ⟨_, rfl⟩, q m h1 h2⟩
def gMinDf : List Vl → Vl → Vl → (Vl → Prop) → Prop := fun st x d Q => match d with
  | .fr (.int d) => ∃ ns : List Int, pyO st x = some (.list (ns.map .int)) ∧ (ns = [] → Q (.fr (.int d))) ∧ ∀ m, m ∈ ns → (∀ y, y ∈ ns → m ≤ y) → Q (.fr (.int m))
  | _ => False
def cMinDf (ta td : DT) : DT := fun st Q => ta st fun x st1 => td st1 fun d st2 => gMinDf st2 x d fun r => Q r st2
theorem de_minDf (hc : X.calm = true) (hg : Gl X "min") (hm : X.mg "min" = none) (ha : DE X B lk e ta) (hd : DE X B lk d td) (he : starEach [e] X.env = (false, eval e X.env) :: starEach [] X.env := by rfl)
    (he2 : backTo pos (starEach [e] X.env) = (false, eval e X.env) :: backTo pos (starEach [] X.env) := by rfl) (hpl : (backTo pos (starEach [e] X.env)).any (·.1) = false := by rfl) :
    DE X B lk (.Call (.Name "min" p) [e] [⟨some "default", d, kpos⟩] pos) (cMinDf ta td) := by
  refine PE.weak (pe_callBK (cr_minDf hc) hg hm boot_min (pa_cons ha pa_nil he) (pk_cons hd pk_nil) (he := he2) (hpl := hpl)) fun σ H Q ⟨lv, st, tm, tv, Q0, L, R, h, k⟩ => ?_
  refine ⟨lv, st, tm, tv, _, L, R, h, fun x st1 u H1 h1 R1 => ?_⟩
  refine ⟨lv, st1, x :: tm, u :: tv, _, L, R1, h1, fun y st2 v H2 h2 R2 => ?_⟩
  unfold gMinDf at h2
  split at h2
  · rename_i n
    obtain ⟨ns, e1, q0, q⟩ := h2
    obtain rfl := R2.isInt
    obtain ⟨F, O, R3⟩ := R2.pop
    obtain ⟨a, vs, rfl, hl, r⟩ := R3.lst e1
    obtain rfl := r.ints
    exact ⟨a, ns, n, rfl, rfl, hl, fun e => k _ _ _ _ (q0 e) ⟨F, O, R3.pop.push (d := .fr (.int _)) (.int _)⟩, fun m h1 h2 => k _ _ _ _ (q m h1 h2) ⟨F, O, R3.pop.push (d := .fr (.int _)) (.int _)⟩⟩
  · exact h2.elim
end
section
variable {st : List Vl} {Q : Vl → List Vl → Prop} {ta td : DT}
theorem s_minDf (h : ta st fun x st1 => td st1 fun d st2 => gMinDf st2 x d fun r => Q r st2) : cMinDf ta td st Q := h
end
/-! ### reversed(a tuple) -/
open RT
def cRevI (te : DT) : DTI := fun st Q => te st fun d st' => match d with
  | .fr (.tuple ds) => Q ds.reverse [d] (fun _ => True) st'
  | _ => False
section
variable {K : PySem.W.Frag} {B : Ba} {d : Vl}
theorem rev_ix {α : Type} {xs : List α} {i : Nat} (h : i < xs.length) : xs.reverse[i]? = xs[xs.length - 1 - i]? := by
  rw [List.getElem?_reverse h]
theorem wk_rt {a : Addr} {ds : List PyData} {cond : List Vl → Prop} (h : ∀ st, cond st → pyO st d = some (.tuple ds)) : Wk K B (ItvT K a ds.length) ds.reverse [d] [.ref a] cond where
  go := fun lv st tm σ tv H i x hc R e => by
    obtain ⟨F, O, R⟩ := R
    obtain ⟨a', vs, e1, h1, r⟩ := R.tup (h st hc)
    cases e1
    have hi : i < ds.length := by
      have := (List.getElem?_eq_some_iff.mp e).1
      rwa [List.length_reverse] at this
    rw [rev_ix hi] at e
    obtain ⟨w, hw, rw⟩ := r.get e
    refine ⟨⟨hi, vs, w, h1, hw⟩, fun y H' z => ?_⟩
    obtain ⟨rfl, z⟩ := z
    have e2 := z vs h1
    rw [hw] at e2
    cases e2
    exact ⟨F, O, R.push (d := .fr x) rw⟩
  stop := fun lv st tm σ tv H hc R => by
    show ds.length ≤ _
    rw [List.length_reverse]
    exact Nat.le_refl _
end
section
variable {X : Cx} {B : Ba} {lk : List Nat} {tg e : Expr} {te : DT} {p pos : Pos}
theorem di_revT (hg : Gl X "reversed") (hm : X.mg "reversed" = none) (he : DE X B lk e te) (hs : starEach [e] X.env = (false, eval e X.env) :: starEach [] X.env := by rfl) : DI X B lk tg (.Call (.Name "reversed" p) [e] [] pos) (cRevI te) :=
  PI.weak (pi_revA hg hm he hs) fun σ H R ⟨lv, st, tm, tv, Q0, L, Rl, h, k⟩ => by
  refine ⟨lv, st, tm, tv, _, L, Rl, h, fun d st' v H' q R' => ?_⟩
  split at q
  · rename_i ds
    obtain ⟨a, vs, rfl, h1, e⟩ := R'.tup (d := .fr (.tuple ds)) rfl
    refine ⟨a, vs, rfl, .inr ⟨h1, ?_⟩⟩
    rw [e]
    exact k ds.reverse [.fr (.tuple ds)] (fun _ => True) st' [.ref a] _ _ q (wk_rt fun _ _ => rfl) rfl R'
  · exact q.elim
def RvTK (d : Vl) (st : List Vl) (Q : List PyData → List Vl → (List Vl → Prop) → List Vl → Prop) : Prop := match d with
  | .fr (.tuple ds) => Q ds.reverse [d] (fun _ => True) st
  | _ => False
theorem s_revI {st : List Vl} {Q : List PyData → List Vl → (List Vl → Prop) → List Vl → Prop} (h : te st fun d st' => RvTK d st' Q) : cRevI te st Q := h
theorem s_rvk {st : List Vl} {ds : List PyData} {Q : List PyData → List Vl → (List Vl → Prop) → List Vl → Prop} (h : Q ds.reverse [.fr (.tuple ds)] (fun _ => True) st) : RvTK (.fr (.tuple ds)) st Q := h
end
end DL

/-! sorted of pairs (tuple of numbers, number); orders of measures. -/
namespace DL
open PySem PySem.Spec PyProof.Rows L2
def tpI (p : List Int × Int) : PyData := .tuple [pt p.1, .int p.2]
def tpLe (p q : List Int × Int) : Bool := decide (p.1 < q.1 ∨ (p.1 = q.1 ∧ p.2 ≤ q.2))
theorem alike_ints2 : ∀ xs ys : List Int, PySem.W.alike (pt xs) (pt ys) = true := fun xs ys => by
  unfold pt
  rw [PySem.W.alike]
  induction xs generalizing ys with
  | nil => cases ys <;> rfl
  | cons x xs ih =>
    cases ys with
    | nil => rfl
    | cons y ys => exact ih ys
theorem alike_tp (p q : List Int × Int) : PySem.W.alike (tpI p) (tpI q) = true := by
  have h1 := alike_ints2 p.1 q.1
  rw [pt, pt, PySem.W.alike] at h1
  unfold tpI pt
  simp only [PySem.W.alike, PySem.W.alikeAll, Bool.and_true, Bool.true_and, h1]
theorem lt_tp (p q : List Int × Int) : PySem.W.dataLt (tpI p) (tpI q) = decide (p.1 < q.1 ∨ (p.1 = q.1 ∧ p.2 < q.2)) := by
  unfold tpI
  rw [PySem.W.dataLt_pair (alike_ints2 _ _) (by simp [PySem.W.alike]), eqv_pt, eqv_int, PySem.W.dataLt_int]
  have e : PySem.W.dataLt (pt p.1) (pt q.1) = decide (p.1 < q.1) := by
    unfold pt
    rw [PySem.W.dataLt_tuple]
    exact PySem.W.dataLt_ints _ _
  rw [e]
  by_cases h1 : p.1 = q.1
  · rw [if_pos (decide_eq_true h1), h1]
    by_cases h2 : p.2 = q.2
    · rw [if_pos (decide_eq_true h2), h2]
      simp [List.lt_irrefl]
    · rw [if_neg (by simpa using h2)]
      simp [List.lt_irrefl]
  · rw [if_neg (by simpa using h1)]
    simp [h1]
theorem dataLe_tp : (fun a b => PySem.W.dataLe false id (tpI a) (tpI b)) = tpLe := by
  funext p q
  show (!PySem.W.dataLt (tpI q) (tpI p)) = _
  rw [lt_tp]
  unfold tpLe
  rw [← decide_not]
  refine decide_eq_decide.mpr ?_
  constructor
  · intro h
    rcases Decidable.em (p.1 = q.1) with e | e
    · refine .inr ⟨e, ?_⟩
      exact Int.not_lt.mp fun z => h (.inr ⟨e.symm, z⟩)
    · rcases Decidable.em (p.1 < q.1) with l | l
      · exact .inl l
      · have h2 : ¬ q.1 < p.1 := fun z => h (.inl z)
        exact absurd (List.le_antisymm (List.not_lt.mp h2) (List.not_lt.mp l)) e
  · rintro (h | ⟨e, h⟩) (g | ⟨f, g⟩)
    · exact List.lt_asymm h g
    · rw [f] at h; exact List.lt_irrefl _ h
    · rw [e] at g; exact List.lt_irrefl _ g
    · omega
theorem s_srtTP {st : List Vl} {v : Vl} {QF : Vl → Prop} (xs : List (List Int × Int)) (e1 : pyO st v = some (.list (xs.map tpI))) (h : QF (.ow ((xs.mergeSort tpLe).map tpI))) : gSrt st v QF :=
  s_srt e1 (.of alike_tp) (.tuples fun b => ⟨_, _, rfl⟩) (by rw [List.all_map]; exact List.all_eq_true.mpr fun x _ => by show dep 60 (tpI x) = true; simp only [tpI, pt, dep, List.all_cons, List.all_nil, Bool.and_true]; exact dep_ints 58 _) (by rw [sort_map tpI xs, dataLe_tp]; exact h)
/-! ### orders of measures -/
def tk (os : List Nat) (p : List Int) : List Int := os.map fun k => 0 - p.getD k 0
/-- ahead: the first of the order's measures at which they differ tells -/
def ahd : List Nat → List Int → List Int → Bool
  | [], _, _ => false
  | k :: os, p, q => if p.getD k 0 = q.getD k 0 then ahd os p q else decide (q.getD k 0 < p.getD k 0)
theorem tk_lt (p q : List Int) : ∀ os, decide (tk os p < tk os q) = ahd os p q
  | [] => by simp [tk, ahd]
  | k :: os => by
    have ih := tk_lt p q os
    unfold tk at ih ⊢
    rw [List.map_cons, List.map_cons, ahd]
    by_cases e : p.getD k 0 = q.getD k 0
    · rw [if_pos e, ← ih]
      refine decide_eq_decide.mpr ?_
      rw [List.cons_lt_cons_iff, e]
      exact ⟨fun z => z.elim (fun z => absurd z (by omega)) fun z => z.2, fun z => .inr ⟨rfl, z⟩⟩
    · rw [if_neg e]
      refine decide_eq_decide.mpr ?_
      rw [List.cons_lt_cons_iff]
      exact ⟨fun z => z.elim (fun z => by omega) fun z => absurd z.1 (by omega), fun z => .inl (by omega)⟩
theorem tk_eq (p q : List Int) (os : List Nat) : tk os p = tk os q ↔ ∀ k ∈ os, p.getD k 0 = q.getD k 0 := by
  unfold tk
  rw [List.map_inj_left]
  exact ⟨fun z k h => by have := z k h; omega, fun z k h => by have := z k h; omega⟩
/-- an order of m measures -/
def Ord (m : Nat) (os : List Nat) : Prop := os.Perm (List.range m)
section
variable {m : Nat} {os : List Nat}
theorem Ord.len (h : Ord m os) : os.length = m := by rw [List.Perm.length_eq h, List.length_range]
theorem Ord.has (h : Ord m os) {k : Nat} (hk : k < m) : k ∈ os := (List.Perm.mem_iff h).mpr (List.mem_range.mpr hk)
theorem Ord.lt (h : Ord m os) {k : Nat} (hk : k ∈ os) : k < m := List.mem_range.mp ((List.Perm.mem_iff h).mp hk)
theorem Ord.eq (h : Ord m os) {p q : List Int} (hp : p.length = m) (hq : q.length = m) : tk os p = tk os q ↔ p = q := by
  rw [tk_eq, eq_at (p := p) (by omega), hp]
  exact ⟨fun z k hk => z k (h.has hk), fun z k hk => z k (h.lt hk)⟩
theorem sort_perm {xs ys : List Int} (h : xs.Perm ys) (hy : ys.Pairwise (· ≤ ·)) : (xs.mergeSort fun a b => decide (a ≤ b)) = ys := by
  refine List.Perm.eq_of_pairwise (le := fun a b => a ≤ b) (fun _ _ _ _ a b => Int.le_antisymm a b) ?_ hy ((List.mergeSort_perm _ _).trans h)
  have := List.pairwise_mergeSort (le := fun a b : Int => decide (a ≤ b)) (fun a b c h1 h2 => decide_eq_true (Int.le_trans (of_decide_eq_true h1) (of_decide_eq_true h2))) (fun a b => by simp; omega) xs
  exact this.imp fun z => of_decide_eq_true z
theorem nums_range_up (m : Nat) : ((List.range m).map fun (k : Nat) => (k : Int)).Pairwise (· ≤ ·) := by
  rw [List.pairwise_map]
  exact List.pairwise_lt_range.imp fun z => by omega
theorem sort_ord (h : Ord m os) : ((os.map fun (k : Nat) => (k : Int)).mergeSort fun a b => decide (a ≤ b)) = (List.range m).map fun (k : Nat) => (k : Int) :=
  sort_perm (List.Perm.map _ h) (nums_range_up m)
end
/-- an order as a tuple -/
abbrev ptN (os : List Nat) : PyData := .tuple (os.map fun (k : Nat) => PyData.int (k : Int))
theorem ptN_eq (os : List Nat) : ptN os = pt (os.map fun (k : Nat) => (k : Int)) := by unfold ptN pt; rw [List.map_map]; rfl
end DL

/-! the points in an order; weights by which an order goes. -/
namespace DL
open PySem PySem.Spec PyProof.Rows L2
def prs (ps : List (List Int)) (os : List Nat) : List (List Int × Int) := ps.zipIdx.map fun p => (tk os p.1, (p.2 : Int))
def srtd (ps : List (List Int)) (os : List Nat) : List (List Int × Int) := (prs ps os).mergeSort tpLe
def inO (ps : List (List Int)) (os : List Nat) : List Int := (srtd ps os).map (·.2)
theorem srtd_perm (ps : List (List Int)) (os : List Nat) : (srtd ps os).Perm (prs ps os) := List.mergeSort_perm _ _
theorem inO_perm (ps : List (List Int)) (os : List Nat) : (inO ps os).Perm ((List.range ps.length).map fun (k : Nat) => (k : Int)) := by
  refine (List.Perm.map _ (srtd_perm ps os)).trans ?_
  unfold prs
  rw [List.map_map, show ((fun x : List Int × Int => x.2) ∘ fun p : List Int × Nat => (tk os p.1, (p.2 : Int))) = (fun (k : Nat) => (k : Int)) ∘ Prod.snd from rfl, ← List.map_map, List.zipIdx_map_snd, List.range_eq_range']
theorem inO_len (ps : List (List Int)) (os : List Nat) : (inO ps os).length = ps.length := by rw [(inO_perm ps os).length_eq, List.length_map, List.length_range]
theorem tpLe_total (a b : List Int × Int) : (tpLe a b || tpLe b a) = true := by
  unfold tpLe
  rw [Bool.or_eq_true, decide_eq_true_eq, decide_eq_true_eq]
  rcases Decidable.em (a.1 = b.1) with e | e
  · rcases Int.le_total a.2 b.2 with h | h
    · exact .inl (.inr ⟨e, h⟩)
    · exact .inr (.inr ⟨e.symm, h⟩)
  · rcases Decidable.em (a.1 < b.1) with l | l
    · exact .inl (.inl l)
    · rcases Decidable.em (b.1 < a.1) with l2 | l2
      · exact .inr (.inl l2)
      · exact absurd (List.le_antisymm (List.not_lt.mp l2) (List.not_lt.mp l)) e
theorem tpLe_trans (a b c : List Int × Int) (h1 : tpLe a b = true) (h2 : tpLe b c = true) : tpLe a c = true := by
  unfold tpLe at *
  rw [decide_eq_true_eq] at *
  rcases h1 with h1 | ⟨e1, h1⟩
  · rcases h2 with h2 | ⟨e2, h2⟩
    · exact .inl (List.lt_trans h1 h2)
    · rw [← e2]; exact .inl h1
  · rcases h2 with h2 | ⟨e2, h2⟩
    · rw [e1]; exact .inl h2
    · exact .inr ⟨e1.trans e2, by omega⟩
theorem srtd_up (ps : List (List Int)) (os : List Nat) : (srtd ps os).Pairwise fun a b => tpLe a b = true := List.pairwise_mergeSort tpLe_trans tpLe_total _
theorem mem_srtd {ps : List (List Int)} {os : List Nat} {a : List Int × Int} (h : a ∈ srtd ps os) : ∃ (i : Nat) (hi : i < ps.length), a = (tk os ps[i], (i : Int)) := by
  have h := (srtd_perm ps os).mem_iff.mp h
  obtain ⟨⟨p, i⟩, hp, rfl⟩ := List.mem_map.mp h
  obtain ⟨_, h2, h3⟩ := List.mem_zipIdx hp
  have hi : i < ps.length := by omega
  exact ⟨i, hi, by simp only [Nat.sub_zero] at h3; rw [h3]⟩
/-! ### weights -/
def dS (os : List Nat) (ws p q : List Int) : Int := (os.map fun k => (p.getD k 0 - q.getD k 0) * ws.getD k 0).sum
structure WJ (ps : List (List Int)) (os : List Nat) (ws : List Int) (b : Int) : Prop where
  pos : 0 ≤ b
  one : ∀ k ∈ os, 1 ≤ ws.getD k 0
  top : ∀ p ∈ ps, ∀ q ∈ ps, dS os ws p q ≤ b
  ahead : ∀ p ∈ ps, ∀ q ∈ ps, ahd os p q = true → 1 ≤ dS os ws p q
end DL

/-! the spread in a measure, the weights of an order, as functions. -/
namespace DL
open PySem PySem.Spec PyProof.Rows L2
def topL : List Int → Int
  | [] => 0
  | x :: r => r.foldl max x
def lowL : List Int → Int
  | [] => 0
  | x :: r => r.foldl min x
theorem foldMax : ∀ (r : List Int) (x : Int), (r.foldl max x = x ∨ r.foldl max x ∈ r) ∧ x ≤ r.foldl max x ∧ ∀ y ∈ r, y ≤ r.foldl max x
  | [], x => ⟨.inl rfl, Int.le_refl _, by intro y h; cases h⟩
  | z :: r, x => by
    obtain ⟨a, b, c⟩ := foldMax r (max x z)
    rw [List.foldl_cons]
    refine ⟨?_, by omega, fun y hy => ?_⟩
    · rcases a with a | a
      · rw [a]
        rcases Int.le_total x z with h | h
        · rw [Int.max_eq_right h]; exact .inr List.mem_cons_self
        · rw [Int.max_eq_left h]; exact .inl rfl
      · exact .inr (List.mem_cons_of_mem _ a)
    · rcases List.mem_cons.mp hy with rfl | hy
      · omega
      · exact c y hy
theorem foldMin : ∀ (r : List Int) (x : Int), (r.foldl min x = x ∨ r.foldl min x ∈ r) ∧ r.foldl min x ≤ x ∧ ∀ y ∈ r, r.foldl min x ≤ y
  | [], x => ⟨.inl rfl, Int.le_refl _, by intro y h; cases h⟩
  | z :: r, x => by
    obtain ⟨a, b, c⟩ := foldMin r (min x z)
    rw [List.foldl_cons]
    refine ⟨?_, by omega, fun y hy => ?_⟩
    · rcases a with a | a
      · rw [a]
        rcases Int.le_total x z with h | h
        · rw [Int.min_eq_left h]; exact .inl rfl
        · rw [Int.min_eq_right h]; exact .inr List.mem_cons_self
      · exact .inr (List.mem_cons_of_mem _ a)
    · rcases List.mem_cons.mp hy with rfl | hy
      · omega
      · exact c y hy
theorem topL_is {xs : List Int} {m : Int} (h1 : m ∈ xs) (h2 : ∀ y ∈ xs, y ≤ m) : m = topL xs := by
  cases xs with
  | nil => cases h1
  | cons x r =>
    obtain ⟨a, b, c⟩ := foldMax r x
    have h3 : topL (x :: r) ∈ x :: r := a.elim (fun e => by show r.foldl max x ∈ _; rw [e]; exact List.mem_cons_self) fun e => List.mem_cons_of_mem _ e
    have h4 := h2 _ h3
    have h5 : m ≤ topL (x :: r) := by
      rcases List.mem_cons.mp h1 with rfl | h
      · exact b
      · exact c m h
    omega
theorem lowL_is {xs : List Int} {m : Int} (h1 : m ∈ xs) (h2 : ∀ y ∈ xs, m ≤ y) : m = lowL xs := by
  cases xs with
  | nil => cases h1
  | cons x r =>
    obtain ⟨a, b, c⟩ := foldMin r x
    have h3 : lowL (x :: r) ∈ x :: r := a.elim (fun e => by show r.foldl min x ∈ _; rw [e]; exact List.mem_cons_self) fun e => List.mem_cons_of_mem _ e
    have h4 := h2 _ h3
    have h5 : lowL (x :: r) ≤ m := by
      rcases List.mem_cons.mp h1 with rfl | h
      · exact b
      · exact c m h
    omega
def spr (ps : List (List Int)) (k : Nat) : Int := topL (ps.map fun p => p.getD k 0) - lowL (ps.map fun p => p.getD k 0)
theorem spr_ok (ps : List (List Int)) (k : Nat) : 0 ≤ spr ps k ∧ ∀ p ∈ ps, ∀ q ∈ ps, p.getD k 0 - q.getD k 0 ≤ spr ps k := by
  have key : ∀ xs : List Int, 0 ≤ topL xs - lowL xs ∧ ∀ x ∈ xs, ∀ y ∈ xs, x - y ≤ topL xs - lowL xs := fun xs => by
    cases xs with
    | nil => exact ⟨Int.le_refl _, by intro x h; cases h⟩
    | cons z r =>
      obtain ⟨_, b, c⟩ := foldMax r z
      obtain ⟨_, b2, c2⟩ := foldMin r z
      have ht : ∀ x ∈ z :: r, x ≤ topL (z :: r) := fun x hx => (List.mem_cons.mp hx).elim (fun e => by rw [e]; exact b) (c x)
      have hlw : ∀ x ∈ z :: r, lowL (z :: r) ≤ x := fun x hx => (List.mem_cons.mp hx).elim (fun e => by rw [e]; exact b2) (c2 x)
      have h1 := ht z List.mem_cons_self
      have h2 := hlw z List.mem_cons_self
      exact ⟨by omega, fun x hx y hy => by have := ht x hx; have := hlw y hy; omega⟩
  obtain ⟨a, b⟩ := key (ps.map fun p => p.getD k 0)
  exact ⟨a, fun p hp q hq => b _ (List.mem_map.mpr ⟨p, hp, rfl⟩) _ (List.mem_map.mpr ⟨q, hq, rfl⟩)⟩
theorem spr_far {ps : List (List Int)} (h : ∀ p ∈ ps, ∀ x ∈ p, FarI x) (k : Nat) : spr ps k ≤ 2000000000 := by
  have hf : ∀ x ∈ ps.map fun p => p.getD k 0, FarI x := fun x hx => by
    obtain ⟨p, hp, rfl⟩ := List.mem_map.mp hx
    by_cases hk : k < p.length
    · rw [List.getD_eq_getElem?_getD, List.getElem?_eq_getElem hk]
      exact h p hp _ (List.getElem_mem hk)
    · rw [List.getD_eq_getElem?_getD, List.getElem?_eq_none (by omega)]
      exact ⟨by decide, by decide⟩
  have key : ∀ xs : List Int, (∀ x ∈ xs, FarI x) → topL xs - lowL xs ≤ 2000000000 := fun xs hx => by
    cases xs with
    | nil => show (0 : Int) - 0 ≤ _; omega
    | cons z r =>
      obtain ⟨a, _, _⟩ := foldMax r z
      obtain ⟨a2, _, _⟩ := foldMin r z
      have h3 : topL (z :: r) ∈ z :: r := a.elim (fun e => by show r.foldl max z ∈ _; rw [e]; exact List.mem_cons_self) fun e => List.mem_cons_of_mem _ e
      have h4 : lowL (z :: r) ∈ z :: r := a2.elim (fun e => by show r.foldl min z ∈ _; rw [e]; exact List.mem_cons_self) fun e => List.mem_cons_of_mem _ e
      obtain ⟨g1, g2⟩ := hx _ h3
      obtain ⟨g3, g4⟩ := hx _ h4
      omega
  exact key _ hf
/-- the weights and what stands behind, when the measures os are done -/
def wSt (ps : List (List Int)) (m : Nat) : List Nat → List Int × Int
  | [] => (List.replicate m 1, 0)
  | k :: os => let r := wSt ps m os; (r.1.set k (r.2 + 1), r.2 + (r.2 + 1) * spr ps k)
theorem wSt_len (ps : List (List Int)) (m : Nat) : ∀ os, (wSt ps m os).1.length = m
  | [] => List.length_replicate
  | k :: os => by rw [wSt]; show (List.set _ _ _).length = m; rw [List.length_set, wSt_len ps m os]
def wBy (ps : List (List Int)) (m : Nat) (os : List Nat) : List Int := (wSt ps m os).1
end DL

/-! going by an order: the chain of the sorted points tells of all pairs. -/
namespace DL
open PySem PySem.Spec PyProof.Rows L2
def goesB (ps : List (List Int)) (m : Nat) (os : List Nat) (ws : List Int) : Bool :=
  decide (ws.length = m) && (ws.all fun w => decide (1 ≤ w)) && ps.all fun p => ps.all fun q => !ahd os p q || decide (dotS q ws < dotS p ws)
def gtBy (ws p q : List Int) : Bool := decide (p = q) || decide (dotS q ws < dotS p ws)
theorem ahd_irr (p : List Int) : ∀ os, ahd os p p = false
  | [] => rfl
  | k :: os => by rw [ahd, if_pos rfl, ahd_irr p os]
theorem ahd_asym (p q : List Int) : ∀ os, ahd os p q = true → ahd os q p = false
  | [], h => by cases h
  | k :: os, h => by
    rw [ahd] at h ⊢
    by_cases e : p.getD k 0 = q.getD k 0
    · rw [if_pos e] at h
      rw [if_pos e.symm, ahd_asym p q os h]
    · rw [if_neg e] at h
      have h := of_decide_eq_true h
      rw [if_neg (fun z => e z.symm)]
      exact decide_eq_false (by omega)
theorem chain_all {L : List (List Int)} {os : List Nat} {ws : List Int} (hR : L.Pairwise fun p q => ahd os p q = true ∨ p = q) :
    ((L.zip (L.drop 1)).all fun x => gtBy ws x.1 x.2) = L.all fun p => L.all fun q => !ahd os p q || decide (dotS q ws < dotS p ws) := by
  rw [Bool.eq_iff_iff, List.all_eq_true, List.all_eq_true]
  constructor
  · intro h
    have hc : ∀ i (hi : i + 1 < L.length), L[i] = L[i + 1] ∨ dotS L[i + 1] ws < dotS L[i] ws := fun i hi => by
      have hz : (L[i], L[i + 1]) ∈ L.zip (L.drop 1) := by
        refine List.mem_iff_getElem?.mpr ⟨i, ?_⟩
        rw [List.getElem?_zip_eq_some, List.getElem?_drop, Nat.add_comm 1 i]
        exact ⟨List.getElem?_eq_getElem (by omega), List.getElem?_eq_getElem hi⟩
      have := h _ hz
      unfold gtBy at this
      rwa [Bool.or_eq_true, decide_eq_true_eq, decide_eq_true_eq] at this
    have hd : ∀ (d i : Nat) (hi : i + d < L.length), L[i]'(by omega) = L[i + d] ∨ dotS L[i + d] ws < dotS (L[i]'(by omega)) ws := fun d => by
      induction d with
      | zero => intro i hi; exact .inl rfl
      | succ d ih =>
        intro i hi
        have h1 := ih i (by omega)
        have h2 := hc (i + d) (by omega)
        rcases h1 with h1 | h1
        · rw [← h1] at h2; exact h2
        · rcases h2 with h2 | h2
          · right; show dotS L[i + d + 1] ws < _; rw [← h2]; exact h1
          · right; exact Int.lt_trans h2 h1
    intro p hp
    rw [List.all_eq_true]
    intro q hq
    rw [Bool.or_eq_true, Bool.not_eq_true', decide_eq_true_eq]
    by_cases ha : ahd os p q = true
    · right
      obtain ⟨i, hi, rfl⟩ := List.getElem_of_mem hp
      obtain ⟨j, hj, rfl⟩ := List.getElem_of_mem hq
      rcases Nat.lt_or_ge i j with hij | hij
      · have := hd (j - i) i (by omega)
        have e : i + (j - i) = j := by omega
        simp only [e] at this
        rcases this with z | z
        · rw [z, ahd_irr] at ha; cases ha
        · exact z
      · rcases Nat.lt_or_ge j i with hji | hji
        · rcases List.pairwise_iff_getElem.mp hR j i hj hi hji with z | z
          · rw [ahd_asym _ _ os z] at ha; cases ha
          · rw [z, ahd_irr] at ha; cases ha
        · have e : i = j := by omega
          subst e
          rw [ahd_irr] at ha; cases ha
    · exact .inl (Bool.eq_false_iff.mpr ha)
  · rintro h ⟨p, q⟩ hz
    obtain ⟨i, hi⟩ := List.mem_iff_getElem?.mp hz
    rw [List.getElem?_zip_eq_some, List.getElem?_drop, Nat.add_comm 1 i] at hi
    obtain ⟨h1, h2⟩ := hi
    obtain ⟨i1, e1⟩ := List.getElem?_eq_some_iff.mp h1
    obtain ⟨i2, e2⟩ := List.getElem?_eq_some_iff.mp h2
    have hr := List.pairwise_iff_getElem.mp hR i (i + 1) i1 i2 (by omega)
    rw [e1, e2] at hr
    have m1 : p ∈ L := by have := List.getElem_mem i1; rw [e1] at this; exact this
    have m2 : q ∈ L := by have := List.getElem_mem i2; rw [e2] at this; exact this
    unfold gtBy
    rw [Bool.or_eq_true, decide_eq_true_eq, decide_eq_true_eq]
    rcases hr with hr | hr
    · right
      have := List.all_eq_true.mp (h p m1) q m2
      rw [hr, Bool.not_true, Bool.false_or] at this
      exact of_decide_eq_true this
    · exact .inl hr
def inP (ps : List (List Int)) (os : List Nat) : List (List Int) := (srtd ps os).map fun a => ps.getD a.2.toNat []
theorem inP_perm (ps : List (List Int)) (os : List Nat) : (inP ps os).Perm ps := by
  refine (List.Perm.map _ (srtd_perm ps os)).trans ?_
  have e : (prs ps os).map (fun a => ps.getD a.2.toNat []) = ps := by
    unfold prs
    rw [List.map_map]
    refine List.ext_getElem (by rw [List.length_map, List.length_zipIdx]) fun i h1 h2 => ?_
    rw [List.getElem_map, List.getElem_zipIdx]
    show ps.getD (((0 + i : Nat) : Int)).toNat [] = _
    rw [Int.toNat_natCast, Nat.zero_add, List.getD_eq_getElem?_getD, List.getElem?_eq_getElem h2]
    rfl
  rw [e]
theorem inP_up {m : Nat} {ps : List (List Int)} {os : List Nat} (ho : Ord m os) (hp : ∀ p ∈ ps, p.length = m) : (inP ps os).Pairwise fun p q => ahd os p q = true ∨ p = q := by
  unfold inP
  rw [List.pairwise_map]
  refine List.Pairwise.imp_of_mem (fun {a b} ha hb h => ?_) (srtd_up ps os)
  obtain ⟨i, hi, rfl⟩ := mem_srtd ha
  obtain ⟨j, hj, rfl⟩ := mem_srtd hb
  have e1 : ps.getD ((i : Int)).toNat [] = ps[i] := by rw [Int.toNat_natCast, List.getD_eq_getElem?_getD, List.getElem?_eq_getElem hi]; rfl
  have e2 : ps.getD ((j : Int)).toNat [] = ps[j] := by rw [Int.toNat_natCast, List.getD_eq_getElem?_getD, List.getElem?_eq_getElem hj]; rfl
  show ahd os (ps.getD ((i : Int)).toNat []) (ps.getD ((j : Int)).toNat []) = true ∨ _ = _
  rw [e1, e2]
  unfold tpLe at h
  rcases of_decide_eq_true h with h | ⟨h, _⟩
  · left
    rw [← tk_lt]
    exact decide_eq_true h
  · exact .inr ((ho.eq (hp _ (List.getElem_mem hi)) (hp _ (List.getElem_mem hj))).mp h)
theorem goes_chain {m : Nat} {ps : List (List Int)} {os : List Nat} (ws : List Int) (ho : Ord m os) (hp : ∀ p ∈ ps, p.length = m) :
    (((inP ps os).zip ((inP ps os).drop 1)).all fun x => gtBy ws x.1 x.2) = ps.all fun p => ps.all fun q => !ahd os p q || decide (dotS q ws < dotS p ws) := by
  rw [chain_all (inP_up ho hp), Bool.eq_iff_iff, List.all_eq_true, List.all_eq_true]
  have hm : ∀ p, p ∈ inP ps os ↔ p ∈ ps := fun p => (inP_perm ps os).mem_iff
  constructor
  · intro h p h1
    have := h p ((hm p).mpr h1)
    rw [List.all_eq_true] at this ⊢
    exact fun q h2 => this q ((hm q).mpr h2)
  · intro h p h1
    have := h p ((hm p).mp h1)
    rw [List.all_eq_true] at this ⊢
    exact fun q h2 => this q ((hm q).mp h2)
end DL

/-! min of a tuple. -/
namespace DL
open PySem PySem.Spec PyProof.Rows L2
section
variable {prog : Program} {w : World} {A : Around} {E : Value → Shared → Prop} {s : Shared} {a : Addr} {its : List Value} {ns : List Int} {Q : Value → Shared → Prop}
end
section
variable {X : Cx} {B : Ba} {K : PySem.W.Frag} {lk : List Nat} {e d : Expr} {es : List Expr} {t : DTA} {ta td : DT} {p pos kpos : Pos}
end
end DL

/-! sorted(set(..)) of whole numbers. -/
namespace DL
open PySem PySem.Spec PyProof.Rows PySem.Calls L2
/-! ### strictly sorted, each thing once -/
section
variable {α : Type} [DecidableEq α]
structure Sto (lt : α → α → Bool) : Prop where
  irr : ∀ a, lt a a = false
  tr : ∀ a b c, lt a b = true → lt b c = true → lt a c = true
  tot : ∀ a b, lt a b = true ∨ a = b ∨ lt b a = true
end
section
variable {P : Program} {w : World} {A : Around} {E : Value → Shared → Prop} {s : Shared}
end
section
variable {X : Cx} {B : Ba} {K : PySem.W.Frag} {lk : List Nat} {e : Expr} {es : List Expr} {t : DTA} {p p2 pos pos2 : Pos}
end
end DL

/-! A list whose first thing is a list of its own (an urn). -/
namespace DL
open PySem PySem.Spec PyProof.Rows L2
section
variable {X : Cx} {B : Ba} {lk : List Nat} {x : Str} {p p2 p3 p4 pos apos cpos : Pos}
end
section
variable {st : List Vl} {Q : Vl → List Vl → Prop} {i k : Nat} {xs ds : List PyData} {y : PyData}
end
end DL

/-! Defs that call themselves; the draws of the laws with urns; axes. -/
namespace DL
open PySem PySem.Spec PyProof.Rows L2
end DL

/-! str of a whole number; fractions in lowest terms; the store of the laws about fractions. -/
namespace DL
open PySem PySem.Spec PyProof.Rows L2
section
variable {X : Cx} {B : Ba} {K : PySem.W.Frag} {lk : List Nat} {e : Expr} {es : List Expr} {t : DTA} {p pos : Pos}
end
/-- products of numbers below 2 ^ 1000 -/
theorem mulB {i j : Int} (h1 : i.natAbs < 2 ^ 1000) (h2 : j.natAbs < 2 ^ 1000) : IntMulOk i j :=
  .of_bits (Nat.le_trans (PySem.intBits_le_iff.mpr h1) (by decide)) (Nat.le_trans (PySem.intBits_le_iff.mpr h2) (by decide))
theorem gcd_step {a b : Nat} (h : 0 < b) : Nat.gcd a b = Nat.gcd b (a % b) := by rw [Nat.gcd_comm, Nat.gcd_rec, Nat.gcd_comm]
/-- lowest terms of a / b, b not nought -/
def lowN (a b : Int) : Int := (if b < 0 then -a else a) / ((Int.gcd a b : Nat) : Int)
def lowD (a b : Int) : Int := ((b.natAbs : Nat) : Int) / ((Int.gcd a b : Nat) : Int)
theorem gcd_pos {a b : Int} (h : b ≠ 0) : 0 < Int.gcd a b := Nat.gcd_pos_of_pos_right _ (by omega)
theorem low_pos {a b : Int} (h : b ≠ 0) : 1 ≤ lowD a b := by
  have h1 := gcd_pos (a := a) h
  have h2 : ((Int.gcd a b : Nat) : Int) ≤ ((b.natAbs : Nat) : Int) := Int.ofNat_le.mpr (Nat.le_of_dvd (by omega) (Nat.gcd_dvd_right _ _))
  exact Int.le_ediv_of_mul_le (by omega) (by omega)
end DL

/-! What the head tells of defs as things and of global tuples (nothing of the data layer is asked, so that the run of the top can come first). -/
namespace DL
open PySem PySem.Spec PyProof.Rows L2
/-! ### the head's facts -/
def hookB (n : Nat) (fa : List He.Fa) (fn : List He.DefD) (b : PySem.W.Frag → Bool) : PySem.W.Hook where
  α := He.AlD × Bool
  obs := fun s => (He.obsDG n fa fn s.heap.get?, b (He.frG s.heap.get? (He.asD s.heap.get? n)))
  val := fun _ => (He.valD fn, true)
  says := fun _ h => ∃ K : PySem.W.Frag, K.In h ∧ (He.SaysD fa fn K ∧ b K = true)
  of := fun _ _ e => ⟨_, He.frG_in, congrArg (fun z : He.AlD × Bool => z.1) e, congrArg (fun z : He.AlD × Bool => z.2) e⟩
  keeps := fun _ _ _ ⟨K, hK, c⟩ k => ⟨K, PySem.W.Frag.In.keeps hK k, c⟩
def obsBG (n : Nat) (fa : List He.Fa) (fn : List He.DefD) (b : PySem.W.Frag → Bool) (g : Addr → Option Obj) : He.AlD × Bool := (He.obsDG n fa fn g, b (He.frG g (He.asD g n)))
theorem obsBG_eq {n : Nat} {fa : List He.Fa} {fn : List He.DefD} {b : PySem.W.Frag → Bool} {g : Addr → Option Obj} {s : Shared} (h : ∀ a, g a = s.heap.get? a) : obsBG n fa fn b g = (hookB n fa fn b).obs s := by
  have e : g = s.heap.get? := funext h
  rw [e] <;> rfl
def fnB (L : List Str) (K : PySem.W.Frag) : Bool := L.all fun x => decide (PySem.W.nsIn K mainGlobals x = some (some (.ref (He.ga K x)))) && (match K.lookup (He.ga K x) with
  | some o => decide (o.cls = .type "function")
  | none => false)
def valsB : List Int → List Value → Bool
  | [], [] => true
  | i :: is, .int j _ :: vs => decide (i = j) && valsB is vs
  | _, _ => false
def tpB (L : List (Str × List Int)) (K : PySem.W.Frag) : Bool := L.all fun p => decide (PySem.W.nsIn K mainGlobals p.1 = some (some (.ref (He.ga K p.1)))) && (match K.lookup (He.ga K p.1) with
  | some o => decide (o.cls = .type "tuple") && (match o.data with
    | .seq its _ => decide (its.size ≤ 1000) && valsB p.2 its.toList
    | _ => false)
  | none => false)
theorem band {a b : Bool} (h : (a && b) = true) : a = true ∧ b = true := by rwa [Bool.and_eq_true] at h
end DL

/-! Global tuples, max of tuples, zip of three, x[i] += e. -/
namespace DL
open PySem PySem.Spec PyProof.Rows PySem.Calls L2
/-! ### a global tuple of whole numbers -/
def TpK (K : PySem.W.Frag) (x : Str) (ns : List Int) : Prop := ∃ (o : Obj) (its : Array Value) (n : Nat), K.lookup (He.ga K x) = some o ∧ o.cls = .type "tuple" ∧ o.data = .seq its n ∧ its.size ≤ sizeLine ∧ Vals (ns.map V.int) its.toList
def TpI (K : PySem.W.Frag) (mg : Str → Option Value) (x : Str) (ns : List Int) : Prop := mg x = some (.ref (He.ga K x)) ∧ TpK K x ns
section
variable {X : Cx} {B : Ba} {lk : List Nat} {pos : Pos} {x : Str}
theorem de_tupN {ns : List Int} (hg : Gl X x) (h : TpI X.K X.mg x ns) (hd : (x == ("__debug__" : Str)) = false := by decide) : DE X B lk (.Name x pos) (cK (.fr (.tuple (ns.map .int)))) :=
  PE.weak (pe_glob (v := .ref (He.ga X.K x)) hg h.1 rfl hd) fun σ H Q ⟨lv, st, tm, tv, Q0, L, R, q, k⟩ => k _ _ _ _ q (R.push_fr fun F => .tup (.inr h.2) (RpA.ofInts ns))
end
/-! the head -/
theorem valsB_ok : ∀ {is : List Int} {vs : List Value}, valsB is vs = true → Vals (is.map V.int) vs
  | [], [], _ => .nil
  | [], _ :: _, h => by simp [valsB] at h
  | _ :: _, [], h => by simp [valsB] at h
  | i :: is, v :: vs, h => by
    cases v with
    | int j t =>
      rw [valsB, Bool.and_eq_true, decide_eq_true_eq] at h
      obtain ⟨h1, h2⟩ := h
      subst h1
      exact .cons ⟨t, rfl⟩ (valsB_ok h2)
    | _ => simp [valsB] at h
theorem tpI_of {K : PySem.W.Frag} {h : Heap} {mg : Str → Option Value} {L : List (Str × List Int)} (In : K.In h) (G : h.Ns mainGlobals mg) (hb : tpB L K = true) {x : Str} {ns : List Int} (hx : (x, ns) ∈ L) : TpI K mg x ns := by
  have := List.all_eq_true.mp hb (x, ns) hx
  rw [Bool.and_eq_true] at this
  refine ⟨PySem.W.mg_of In G (of_decide_eq_true this.1), ?_⟩
  have h2 := this.2
  split at h2
  · rename_i o e
    rw [Bool.and_eq_true] at h2
    have h3 := h2.2
    split at h3
    · rename_i its n ed
      rw [Bool.and_eq_true, decide_eq_true_eq] at h3
      exact ⟨o, its, n, e, of_decide_eq_true h2.1, ed, Nat.le_trans h3.1 (small (Nat.le_refl _)), valsB_ok h3.2⟩
    · cases h3
  · cases h2
/-! ### max of a list of tuples -/
abbrev ltW (a b : List Int) : Bool := decide (a < b)
theorem stoW : Sto ltW := ⟨fun a => decide_eq_false (List.lt_irrefl _), fun a b c h1 h2 => decide_eq_true (List.lt_trans (of_decide_eq_true h1) (of_decide_eq_true h2)), fun a b => by
  rcases Decidable.em (a < b) with h | h
  · exact .inl (decide_eq_true h)
  · rcases Decidable.em (b < a) with g | g
    · exact .inr (.inr (decide_eq_true g))
    · exact .inr (.inl (List.le_antisymm (List.not_lt.mp g) (List.not_lt.mp h)))⟩
theorem lt_ptsW (a b : List Int) : PySem.W.dataLt (pt a) (pt b) = ltW a b := by
  unfold pt
  rw [PySem.W.dataLt_tuple]
  exact PySem.W.dataLt_ints _ _
def mxP (p : List Int) (ps : List (List Int)) : List Int := ps.foldl (fun a y => if ltW a y then y else a) p
theorem maxD_pts : ∀ (ps : List (List Int)) (p : List Int), PySem.W.maxD (pt p) (ps.map pt) = pt (mxP p ps)
  | [], p => rfl
  | q :: ps, p => by
    have h := maxD_pts ps (if ltW p q then q else p)
    unfold PySem.W.maxD at h ⊢
    rw [List.map_cons, List.foldl_cons, lt_ptsW]
    show _ = pt (mxP (if ltW p q then q else p) ps)
    rw [← h]
    congr 1
    cases ltW p q <;> rfl
theorem mxP_mem : ∀ (ps : List (List Int)) (p : List Int), mxP p ps ∈ p :: ps
  | [], p => List.mem_singleton.mpr rfl
  | q :: ps, p => by
    have h := mxP_mem ps (if ltW p q then q else p)
    show mxP (if ltW p q then q else p) ps ∈ _
    rcases List.mem_cons.mp h with e | h
    · rw [e]
      cases ltW p q <;> simp
    · exact List.mem_cons_of_mem _ (List.mem_cons_of_mem _ h)
theorem mxP_ge : ∀ (ps : List (List Int)) (p : List Int), ∀ q ∈ p :: ps, ltW (mxP p ps) q = false
  | [], p, q, h => by rw [List.mem_singleton.mp h]; exact stoW.irr _
  | r :: ps, p, q, h => by
    have ih := mxP_ge ps (if ltW p r then r else p)
    show ltW (mxP (if ltW p r then r else p) ps) q = false
    have hp := ih _ List.mem_cons_self
    have step : ∀ z, ltW (if ltW p r then r else p) z = false → ltW (mxP (if ltW p r then r else p) ps) z = false := fun z hz => by
      cases e : ltW (mxP (if ltW p r then r else p) ps) z with
      | false => rfl
      | true =>
        rcases stoW.tot (if ltW p r then r else p) (mxP (if ltW p r then r else p) ps) with w | w | w
        · rw [stoW.tr _ _ _ w e] at hz; cases hz
        · rw [← w, hz] at e; cases e
        · rw [w] at hp; cases hp
    rcases List.mem_cons.mp h with rfl | h
    · refine step q ?_
      cases e : ltW q r with
      | true =>
        rw [if_pos rfl]
        cases e2 : ltW r q with
        | false => rfl
        | true => have := stoW.tr _ _ _ e e2; rw [stoW.irr] at this; cases this
      | false => rw [if_neg (by decide)]; exact stoW.irr _
    · rcases List.mem_cons.mp h with rfl | h
      · refine step q ?_
        cases e : ltW p q with
        | true => rw [if_pos rfl]; exact stoW.irr _
        | false => rw [if_neg (by decide)]; exact e
      · exact ih q (List.mem_cons_of_mem _ h)
theorem depthAll_ints : ∀ (ns : List Int), PyData.depthAll (ns.map PyData.int) ≤ 1
  | [] => by simp [PyData.depthAll]
  | n :: ns => by
    rw [List.map_cons, PyData.depthAll]
    exact Nat.max_le.mpr ⟨by simp [PyData.depth], depthAll_ints ns⟩
theorem depthAll_pts : ∀ (ps : List (List Int)), PyData.depthAll (ps.map pt) ≤ 3
  | [] => by simp [PyData.depthAll]
  | p :: ps => by
    rw [List.map_cons, PyData.depthAll]
    refine Nat.max_le.mpr ⟨?_, depthAll_pts ps⟩
    rw [pt, PyData.depth]
    have := depthAll_ints p
    omega
theorem alikeAll_pts (ps : List (List Int)) : PySem.W.AlikeAll (ps.map pt) := by
  refine ⟨fun x hx y hy => ?_, fun x hx => ?_⟩
  · obtain ⟨a, _, rfl⟩ := List.mem_map.mp hx
    obtain ⟨b, _, rfl⟩ := List.mem_map.mp hy
    exact alike_ints2 a b
  · obtain ⟨a, _, rfl⟩ := List.mem_map.mp hx
    exact fun z => by cases z
theorem vals_back : ∀ {xs : List V} {us : List Value} {i : Nat} {u : Value}, Vals xs us → us[i]? = some u → ∃ x, xs[i]? = some x ∧ RelV x u
  | _, _, _, _, .nil, h => by simp at h
  | _, _, 0, _, .cons r _, h => by
    have e := Option.some.inj (show some _ = some _ from h)
    subst e
    exact ⟨_, rfl, r⟩
  | _, _, i + 1, _, .cons _ t, h => by
    obtain ⟨x, h1, h2⟩ := vals_back t (show _ = some _ by simpa using h)
    exact ⟨x, by simpa using h1, h2⟩
section
variable {X : Cx} {B : Ba} {K : PySem.W.Frag} {lk : List Nat} {e d : Expr} {es : List Expr} {t : DTA} {ta td : DT} {p pos kpos : Pos}
def rMaxP (K : PySem.W.Frag) : List V → Hp → VK → Prop := fun vs H Q => ∃ (a : Addr) (xs : List V) (p : List Int) (ps : List (List Int)), vs = [V.ref a] ∧ SqL K H a xs ∧ DqAll K H xs ((p :: ps).map pt) ∧ ∀ (i : Nat) (v : V), xs[i]? = some v → (p :: ps)[i]? = some (mxP p ps) → Q v H
theorem ndA_pts (ps : List (List Int)) : ndA (ps.map pt) = true := ndA_of fun d hd => by
  obtain ⟨p, _, rfl⟩ := List.mem_map.mp hd
  exact ndA_of fun d hd => by
    obtain ⟨x, _, rfl⟩ := List.mem_map.mp hd
    rfl
theorem reads_pick {h : Heap} {us : List Value} {ps : List (List Int)} {as : List Addr} (hr : ReadsAll h us (ps.map pt) as) {i : Nat} {v : Value} (hv : us[i]? = some v) {q : List Int} {bs : List Addr} (r : Reads h v (pt q) bs) : ps[i]? = some q := by
  obtain ⟨bs2, r2, h2, _, _⟩ := PySem.W.readsAll_at hr i v hv
  rw [List.length_map] at h2
  have h3 : ps[i]? = some ps[i] := List.getElem?_eq_getElem h2
  rw [List.getD_eq_getElem?_getD, List.getElem?_map, h3] at r2
  have e := (r2.unique _ _ r).1
  have e2 : ps[i] = q := by
    have e3 : ps[i].map PyData.int = q.map PyData.int := by
      have e4 : PyData.tuple (ps[i].map .int) = PyData.tuple (q.map .int) := e
      injection e4
    exact (List.map_inj_right (fun a b z => by injection z)).mp e3
  rw [h3, e2]
theorem cr_maxP (hc : X.calm = true) (hu : Un0 X) : CallR X (.builtin "max") (rMaxP X.K) := by
  intro pins s σ H vs us Q I r h
  obtain ⟨a, xs, p, ps, rfl, hs, hd, q⟩ := h
  rw [Vals.ref1 r]
  obtain ⟨its, rv, hl, _⟩ := I.list hs
  obtain ⟨as, hr⟩ := Dq.readsAll I _ _ its (ndA_pts (p :: ps)) hd rv
  refine PySem.W.max_list_data (vs := its.toArray) (x := pt p) (xs := ps.map pt) (I.ok.hd hc) hl.isList (by simpa using hr) (alikeAll_pts (p :: ps)) (by
    have := depthAll_pts (p :: ps)
    have hu := hu
    unfold Un0 at hu
    simp only [List.map_cons] at this
    omega) fun i v h' tk bs hv hrd hk => ?_
  rw [maxD_pts] at hrd
  have hv2 : its[i]? = some v := by simpa using hv
  obtain ⟨w, hw, rw'⟩ := vals_back rv hv2
  exact ⟨w, H, I.kept hk, rw', q i w hw (reads_pick (PyProof.Rows.ReadsAll.keeps hk hr) hv2 hrd)⟩
def gMaxP : List Vl → Vl → (Vl → Prop) → Prop := fun st d Q => ∃ (p : List Int) (ps : List (List Int)), pyO st d = some (.list ((p :: ps).map pt)) ∧ Q (.fr (pt (mxP p ps)))
theorem gMaxP_ok : F1Ok K B gMaxP (rMaxP K) := fun lv st tm σ tv H d v Q0 Q F O R q k => by
  obtain ⟨p, ps, e, q⟩ := q
  obtain ⟨a, vs, rfl, h, r⟩ := R.lst e
  refine ⟨a, vs, p, ps, rfl, h, RpA.dp _ _ r, fun i w hw hi => ?_⟩
  obtain ⟨w2, hw2, rw'⟩ := r.get (show ((p :: ps).map pt)[i]? = some (pt (mxP p ps)) by rw [List.getElem?_map, hi]; rfl)
  rw [hw] at hw2
  cases hw2
  exact k _ _ _ q ⟨F, O, R.pop.push (d := .fr _) rw'⟩
theorem de_maxP (hc : X.calm = true) (hu : Un0 X) (hg : Gl X "max") (hm : X.mg "max" = none) (ha : DA X B lk (e :: es) t) (he : starEach (e :: es) X.env = (false, eval e X.env) :: starEach es X.env := by rfl) (hpl : (backTo pos (starEach es X.env)).any (·.1) = false := by rfl) :
    DE X B lk (.Call (.Name "max" p) (e :: es) [] pos) (cFn (g1 gMaxP) t) := de_fnB (cr_maxP hc hu) gMaxP_ok.ok hg hm boot_max ha (he := he) (hpl := hpl)
/-- max(x, default=d): a list of tuples, perhaps empty -/
def rMaxPD (K : PySem.W.Frag) : List V → List V → Hp → VK → Prop := fun vs zs H Q => ∃ (a : Addr) (xs : List V) (qs : List (List Int)) (d : V), vs = [V.ref a] ∧ zs = [d] ∧ SqL K H a xs ∧ DqAll K H xs (qs.map pt) ∧ (qs = [] → Q d H) ∧ ∀ (p : List Int) (ps : List (List Int)) (i : Nat) (v : V), qs = p :: ps → xs[i]? = some v → qs[i]? = some (mxP p ps) → Q v H
theorem cr_maxPD (hc : X.calm = true) (hu : Un0 X) : CallRK X (.builtin "max") ["default"] (rMaxPD X.K) := by
  intro pins s σ H vs zs us ws Q I r rz h
  obtain ⟨a, xs, qs, d, rfl, rfl, hs, hd, q0, q⟩ := h
  rw [Vals.ref1 r]
  cases rz with
  | cons rz rn =>
    cases rn
    obtain ⟨its, rv, hl, _⟩ := I.list hs
    obtain ⟨as, hr⟩ := Dq.readsAll I _ _ its (ndA_pts qs) hd rv
    refine PySem.W.max_list_default (vs := its.toArray) (xs := qs.map pt) (I.ok.hd hc) hl.isList (by simpa using hr) (alikeAll_pts qs) (by
      have := depthAll_pts qs
      have hu := hu
      unfold Un0 at hu
      omega) (fun e h' tk hk => ⟨d, H, I.kept hk, rz, q0 (List.map_eq_nil_iff.mp e)⟩) fun y ys i v h' tk bs e hv hrd hk => ?_
    obtain ⟨p, ps, rfl, rfl, rfl⟩ := List.map_eq_cons_iff.mp e
    rw [maxD_pts] at hrd
    have hv2 : its[i]? = some v := by simpa using hv
    obtain ⟨w, hw, rw'⟩ := vals_back rv hv2
    exact ⟨w, H, I.kept hk, rw', q p ps i w rfl hw (reads_pick (PyProof.Rows.ReadsAll.keeps hk hr) hv2 hrd)⟩
def gMaxPD : List Vl → Vl → Vl → (Vl → Prop) → Prop := fun st x d Q => match d with
  | .fr d => ∃ qs : List (List Int), pyO st x = some (.list (qs.map pt)) ∧ (qs = [] → Q (.fr d)) ∧ ∀ p ps, qs = p :: ps → Q (.fr (pt (mxP p ps)))
  | _ => False
def cMaxPD (ta td : DT) : DT := fun st Q => ta st fun x st1 => td st1 fun d st2 => gMaxPD st2 x d fun r => Q r st2
theorem de_maxPD (hc : X.calm = true) (hu : Un0 X) (hg : Gl X "max") (hm : X.mg "max" = none) (ha : DE X B lk e ta) (hd : DE X B lk d td) (he : starEach [e] X.env = (false, eval e X.env) :: starEach [] X.env := by rfl)
    (he2 : backTo pos (starEach [e] X.env) = (false, eval e X.env) :: backTo pos (starEach [] X.env) := by rfl) (hpl : (backTo pos (starEach [e] X.env)).any (·.1) = false := by rfl) :
    DE X B lk (.Call (.Name "max" p) [e] [⟨some "default", d, kpos⟩] pos) (cMaxPD ta td) := by
  refine PE.weak (pe_callBK (cr_maxPD hc hu) hg hm boot_max (pa_cons ha pa_nil he) (pk_cons hd pk_nil) (he := he2) (hpl := hpl)) fun σ H Q ⟨lv, st, tm, tv, Q0, L, R, h, k⟩ => ?_
  refine ⟨lv, st, tm, tv, _, L, R, h, fun x st1 u H1 h1 R1 => ?_⟩
  refine ⟨lv, st1, x :: tm, u :: tv, _, L, R1, h1, fun y st2 v H2 h2 R2 => ?_⟩
  unfold gMaxPD at h2
  split at h2
  · rename_i n
    obtain ⟨qs, e1, q0, q⟩ := h2
    obtain ⟨F, O, R2⟩ := R2
    have rd : Rp X.K F H2 v n := R2.top (d := .fr n) (fun i z => by cases z)
    have R3 := R2.pop
    obtain ⟨a, vs, rfl, hl, r⟩ := R3.lst e1
    refine ⟨a, vs, qs, v, rfl, rfl, hl, RpA.dp _ _ r, fun e => k _ _ _ _ (q0 e) ⟨F, O, R3.pop.push (d := .fr n) rd⟩, fun p ps i w e hw hi => ?_⟩
    subst e
    obtain ⟨w2, hw2, rw'⟩ := r.get (show ((p :: ps).map pt)[i]? = some (pt (mxP p ps)) by rw [List.getElem?_map, hi]; rfl)
    rw [hw] at hw2
    cases hw2
    exact k _ _ _ _ (q p ps rfl) ⟨F, O, R3.pop.push (d := .fr _) rw'⟩
  · exact h2.elim
end
section
variable {st : List Vl} {Q : Vl → List Vl → Prop} {QF : Vl → Prop} {ta td : DT} {v d : Vl}
theorem s_maxP (p : List Int) (ps : List (List Int)) (e : pyO st v = some (.list ((p :: ps).map pt))) (h : QF (.fr (pt (mxP p ps)))) : gMaxP st v QF := ⟨p, ps, e, h⟩
theorem s_maxPD (h : ta st fun x st1 => td st1 fun d st2 => gMaxPD st2 x d fun r => Q r st2) : cMaxPD ta td st Q := h
theorem s_maxPDK {y : PyData} (qs : List (List Int)) (e : pyO st v = some (.list (qs.map pt))) (h0 : qs = [] → QF (.fr y)) (h : ∀ p ps, qs = p :: ps → QF (.fr (pt (mxP p ps)))) : gMaxPD st v (.fr y) QF := ⟨qs, e, h0, h⟩
end
/-! ### zip of three -/
def PvZ3 (K : PySem.W.Frag) (k1 k2 k3 : SK) (a b c : Addr) : Nat → (Nat → List V) → Hp → Prop := fun n val H => ∃ xs ys zs, Sq K H k1 a xs ∧ Sq K H k2 b ys ∧ Sq K H k3 c zs ∧ n = min (min xs.length ys.length) zs.length ∧ val = fun i => [(xs[i]?).getD .non, (ys[i]?).getD .non, (zs[i]?).getD .non]
theorem turn_zip3K {P : Program} {w : World} {K : PySem.W.Frag} {elts : List Expr} {kk : Nat} {tpos : Pos} (k1 k2 k3 : SK) (a b d N : Addr) (ha : a < N) (hb : b < N) (hd : d < N) :
    Turn P w K (.Tuple elts kk tpos) (ItP (PvZ3 K k1 k2 k3 a b d)) [N + 5, N + 3, N + 4, N, N + 1, N + 2] (N + 5) (fun i h => IsZip h (N + 5) (N + 3) (N + 4) .none ∧ IsTupOf3 h (N + 3) (.ref N) (.ref (N + 1)) (.ref (N + 2)) ∧ (∃ a1 a2 a3, IsTupOf3 h (N + 4) a1 a2 a3) ∧ IsIt h k1 N a i ∧ IsIt h k2 (N + 1) b i ∧ IsIt h k3 (N + 2) d i) := by
  refine turn_pairs (wr := [N + 5, N + 4, N, N + 1, N + 2]) (by simp) (fun b h => ?_) (fun n val H i ⟨xs, ys, zs, _, _, _, _, e⟩ => by rw [e]; simp) ?_ ?_ ?_ ?_ ?_
  · rcases (by simpa using h : b = N + 5 ∨ b = N + 4 ∨ b = N ∨ b = N + 1 ∨ b = N + 2) with z | z | z | z | z <;> (rw [z]; simp)
  · rintro X pins σ H s n val n' val' rfl I ⟨xs, ys, zs, h1, h2, h0, rfl, rfl⟩ ⟨xs', ys', zs', h3, h4, h5, rfl, rfl⟩
    rw [sq_inj I h1 h3, sq_inj I h2 h4, sq_inj I h0 h5]
  · intro i h st c hc
    obtain ⟨hz, hTI, ⟨x, y, z, hTO⟩, h1, h2, h3⟩ := st
    rcases (by simpa using hc : c = N + 5 ∨ c = N + 3 ∨ c = N + 4 ∨ c = N ∨ c = N + 1 ∨ c = N + 2) with q | q | q | q | q | q
    · rw [q]; exact ⟨_, hz, fun v q => nomatch q⟩
    · rw [q]; exact ⟨_, hTI, fun v q => nomatch q⟩
    · rw [q]; exact ⟨_, hTO, fun v q => nomatch q⟩
    · rw [q]; exact h1.obj
    · rw [q]; exact h2.obj
    · rw [q]; exact h3.obj
  · intro i h h' st q
    obtain ⟨hz, hTI, ⟨x, y, z, hTO⟩, h1, h2, h3⟩ := st
    exact ⟨q (N + 5) (by simp) _ hz, q (N + 3) (by simp) _ hTI, ⟨x, y, z, q (N + 4) (by simp) _ hTO⟩, h1.at_ fun o z => q N (by simp) o z, h2.at_ fun o z => q (N + 1) (by simp) o z, h3.at_ fun o z => q (N + 2) (by simp) o z⟩
  · exact fun A i s Q E st h => wpAny_pyIter_zip st.1 h
  · intro X hP hw hK hc pins σ H s n val i I st hp
    subst hP hw hK
    obtain ⟨xs, ys, zs, hq1, hq2, hq3, rfl, rfl⟩ := hp
    obtain ⟨its1, rv1, p1, hz1⟩ := sq_is I hq1
    obtain ⟨its2, rv2, p2, hz2⟩ := sq_is I hq2
    obtain ⟨its3, rv3, p3, hz3⟩ := sq_is I hq3
    have hh : X.A.in1.handled = none := I.ok.hd hc
    have n1 : a ≠ N := Nat.ne_of_lt ha
    have n2 : b ≠ N + 1 := Nat.ne_of_lt (Nat.lt_succ_of_lt hb)
    have n3 : d ≠ N + 2 := Nat.ne_of_lt (Nat.lt_succ_of_lt (Nat.lt_succ_of_lt hd))
    have D1 := draws_k (prog := X.prog) (w := X.w) hh k1 N a n1 its1.toArray
    have D2 := draws_k (prog := X.prog) (w := X.w) hh k2 (N + 1) b n2 its2.toArray
    have D3 := draws_k (prog := X.prog) (w := X.w) hh k3 (N + 2) d n3 its3.toArray
    refine ⟨fun h => IsSq h k1 a its1.toArray ∧ IsSq h k2 b its2.toArray ∧ IsSq h k3 d its3.toArray, (N + 5) :: (N + 3) :: (N + 4) :: ([N, a] ++ [N + 1, b] ++ [N + 2, d]), ⟨p1, p2, p3⟩, GoesN.stIff (St := fun i h => IsZip h (N + 5) (N + 3) (N + 4) .none ∧ IsTupOf3 h (N + 3) (.ref N) (.ref (N + 1)) (.ref (N + 2)) ∧ (∃ a1 a2 a3, IsTupOf3 h (N + 4) a1 a2 a3) ∧ (IsIt h k1 N a i ∧ IsSq h k1 a its1.toArray) ∧ (IsIt h k2 (N + 1) b i ∧ IsSq h k2 b its2.toArray) ∧ (IsIt h k3 (N + 2) d i ∧ IsSq h k3 d its3.toArray)) (fun i h => ⟨fun ⟨x1, x2, x3, ⟨x4, x5⟩, ⟨x6, x7⟩, x8, x9⟩ => ⟨⟨x1, x2, x3, x4, x6, x8⟩, x5, x7, x9⟩, fun ⟨⟨x1, x2, x3, x4, x6, x8⟩, x5, x7, x9⟩ => ⟨x1, x2, x3, ⟨x4, x5⟩, ⟨x6, x7⟩, x8, x9⟩⟩) ?_⟩
    have G := GoesN.zip3 (elts := elts) (x1 := kk) (pos := tpos) (zip_sep3 (N := N) (fp1 := [a]) (fp2 := [b]) (fp3 := [d]) (fun c h => by rw [List.mem_singleton.mp h]; exact ha) (fun c h => by rw [List.mem_singleton.mp h]; exact hb) (fun c h => by rw [List.mem_singleton.mp h]; exact hd)) D1 D2 D3
    have hl1 : its1.toArray.size = xs.length := by rw [List.size_toArray]; exact rv1.length.symm
    have hl2 : its2.toArray.size = ys.length := by rw [List.size_toArray]; exact rv2.length.symm
    have hl3 : its3.toArray.size = zs.length := by rw [List.size_toArray]; exact rv3.length.symm
    rw [hl1, hl2, hl3] at G
    refine G.mono fun i h₀ v h hi ⟨T, x, y, z, e1, hT, hx, hy, hz, it⟩ => ⟨T, [x, y, z], e1, hT, fun _ => ?_, it⟩
    have i1 : i < xs.length := by omega
    have i2 : i < ys.length := by omega
    have i3 : i < zs.length := by omega
    obtain ⟨u, hu, ru⟩ := rv1.get (List.getElem?_eq_getElem i1)
    obtain ⟨u2, hu2, ru2⟩ := rv2.get (List.getElem?_eq_getElem i2)
    obtain ⟨u3, hu3, ru3⟩ := rv3.get (List.getElem?_eq_getElem i3)
    have e1 : u = x := by
      have h2 : its1.toArray[i]? = some u := by simpa using hu
      rw [hx] at h2; exact (Option.some.inj h2).symm
    have e2 : u2 = y := by
      have h2 : its2.toArray[i]? = some u2 := by simpa using hu2
      rw [hy] at h2; exact (Option.some.inj h2).symm
    have e3 : u3 = z := by
      have h2 : its3.toArray[i]? = some u3 := by simpa using hu3
      rw [hz] at h2; exact (Option.some.inj h2).symm
    subst e1 e2 e3
    show Vals [(xs[i]?).getD .non, (ys[i]?).getD .non, (zs[i]?).getD .non] _
    rw [List.getElem?_eq_getElem i1, List.getElem?_eq_getElem i2, List.getElem?_eq_getElem i3]
    exact .cons ru (.cons ru2 (.cons ru3 .nil))
def iZip3K (K : PySem.W.Frag) (ta : TA) : TI := fun σ H R => ta σ H fun vs H1 => ∃ k1 k2 k3 a b c xs ys zs, vs = [.ref a, .ref b, .ref c] ∧ Sq K H1 k1 a xs ∧ Sq K H1 k2 b ys ∧ Sq K H1 k3 c zs ∧ R (ItP (PvZ3 K k1 k2 k3 a b c)) H1
theorem pi_zip3K {X : Cx} {e e2 e3 : Expr} {ta : TA} {p pos tpos : Pos} {elts : List Expr} {kk : Nat} (hg : Gl X "zip") (hm : X.mg "zip" = none) (ha : PA X [e, e2, e3] ta)
    (hs : starEach [e, e2, e3] X.env = (false, eval e X.env) :: starEach [e2, e3] X.env := by rfl) (hpl : (backTo pos (starEach [e2, e3] X.env)).any (·.1) = false := by rfl) :
    PI X (.Tuple elts kk tpos) (.Call (.Name "zip" p) [e, e2, e3] [] pos) (iZip3K X.K ta) := by
  refine ⟨fun pins s σ H R I h => ?_⟩
  refine Call_ (ld_blt I hg hm PyProof.Rows.boot_zip (PyProof.Rows.callWith_type1 (thn (ha.run pos pins s σ H _ I h) fun us s1 ⟨vs, H1, I1, r1, q1⟩ => ?_) hs hpl))
  obtain ⟨k1, k2, k3, a, b, c, xs, ys, zs, ex, hq1, hq2, hq3, q⟩ := q1
  subst ex
  cases r1 with
  | cons r rr =>
    cases rr with
    | cons r' rr =>
      cases rr with
      | cons r'' rr =>
        cases rr
        cases r
        cases r'
        cases r''
        obtain ⟨its, rv, p1, _⟩ := sq_is I1 hq1
        obtain ⟨its2, rv2, p2, _⟩ := sq_is I1 hq2
        obtain ⟨its3, rv3, p3, _⟩ := sq_is I1 hq3
        refine zip_begins3 (begins_k k1 a its.toArray) (begins_k k2 b its2.toArray) (begins_k k3 c its3.toArray) p1 p2 p3 fun h' hz hTI hTO g1 g2 g3 hsz hk => wpAny_pyIter_zip hz ?_
        have I2 : Inv X pins σ H1 { s1 with heap := h' } := I1.kept (t' := s1.toks) hk
        refine ⟨s1.heap.objs.size + 5, [s1.heap.objs.size + 5, s1.heap.objs.size + 3, s1.heap.objs.size + 4, s1.heap.objs.size, s1.heap.objs.size + 1, s1.heap.objs.size + 2], _, _, H1, rfl, I2, turn_zip3K k1 k2 k3 a b c s1.heap.objs.size p1.lt p2.lt p3.lt, ⟨hz, hTI, ⟨_, _, _, hTO⟩, isIt_new g1, isIt_new g2, isIt_new g3⟩, fun z hcm => ?_, q⟩
        have e' : z = s1.heap.objs.size + 5 ∨ z = s1.heap.objs.size + 3 ∨ z = s1.heap.objs.size + 4 ∨ z = s1.heap.objs.size ∨ z = s1.heap.objs.size + 1 ∨ z = s1.heap.objs.size + 2 := by simpa using hcm
        have hle : s1.heap.objs.size ≤ z := by
          rcases e' with z | z | z | z | z | z
          · rw [z]; exact Nat.le_add_right _ _
          · rw [z]; exact Nat.le_add_right _ _
          · rw [z]; exact Nat.le_add_right _ _
          · rw [z]; exact Nat.le_refl _
          · rw [z]; exact Nat.le_add_right _ _
          · rw [z]; exact Nat.le_add_right _ _
        exact I1.fpOk hle (I1.hok.fresh hle)
def zip3D : List PyData → List PyData → List PyData → List PyData
  | a :: as, b :: bs, c :: cs => .tuple [a, b, c] :: zip3D as bs cs
  | _, _, _ => []
theorem zip3D_at : ∀ (as bs cs : List PyData) (i : Nat), (zip3D as bs cs)[i]? = (match as[i]?, bs[i]?, cs[i]? with | some a, some b, some c => some (.tuple [a, b, c]) | _, _, _ => none)
  | [], _, _, i => by simp [zip3D]
  | a :: as, [], _, i => by
    simp only [zip3D, List.getElem?_nil]
    split <;> simp_all
  | a :: as, b :: bs, [], i => by
    simp only [zip3D, List.getElem?_nil]
    split <;> simp_all
  | a :: as, b :: bs, c :: cs, 0 => by simp [zip3D]
  | a :: as, b :: bs, c :: cs, i + 1 => by
    rw [zip3D, List.getElem?_cons_succ, List.getElem?_cons_succ, List.getElem?_cons_succ, List.getElem?_cons_succ]
    exact zip3D_at as bs cs i
theorem zip3D_len : ∀ (as bs cs : List PyData), (zip3D as bs cs).length = min (min as.length bs.length) cs.length
  | [], _, _ => by simp [zip3D]
  | a :: as, [], _ => by simp [zip3D]
  | a :: as, b :: bs, [] => by simp [zip3D]
  | a :: as, b :: bs, c :: cs => by
    rw [zip3D, List.length_cons, zip3D_len as bs cs, List.length_cons, List.length_cons, List.length_cons]
    omega
section
variable {K : PySem.W.Frag} {B : Ba} {lv : List (Nat × V)} {st tm : List Vl} {σ : L2.St} {tv : List V} {H : Hp} {F : Addr → Prop} {O : Addr → Option Ow} {v v2 v3 : V} {d d2 d3 : Vl}
theorem wk_zip3 {a b c : Addr} {x y z : PyData} {ds es fs : List PyData} (hi : itemsD x = some ds) (hj : itemsD y = some es) (hk : itemsD z = some fs) : Wk K B (ItP (PvZ3 K (kD x) (kD y) (kD z) a b c)) (zip3D ds es fs) [d3, d2, d] [.ref c, .ref b, .ref a] (fun st => pyO st d = some x ∧ pyO st d2 = some y ∧ pyO st d3 = some z) where
  go := fun lv st tm σ tv H i y' hc R e => by
    obtain ⟨F, O, R⟩ := R
    obtain ⟨a', vs, e1, h1, r1⟩ := R.pop.pop.seq hc.1 hi
    cases e1
    obtain ⟨b', ws, e2, h2, r2⟩ := R.pop.seq hc.2.1 hj
    cases e2
    obtain ⟨c', us, e3, h3, r3⟩ := R.seq hc.2.2 hk
    cases e3
    rw [zip3D_at] at e
    split at e
    · rename_i z1 z2 z3 e1 e2 e3
      cases e
      obtain ⟨w1, hw1, q1⟩ := r1.get e1
      obtain ⟨w2, hw2, q2⟩ := r2.get e2
      obtain ⟨w3, hw3, q3⟩ := r3.get e3
      have l1 : i < vs.length := (List.getElem?_eq_some_iff.mp hw1).1
      have l2 : i < ws.length := (List.getElem?_eq_some_iff.mp hw2).1
      have l3 : i < us.length := (List.getElem?_eq_some_iff.mp hw3).1
      refine ⟨⟨_, _, ⟨vs, ws, us, h1, h2, h3, rfl, rfl⟩, by omega⟩, fun y H' q => ?_⟩
      obtain ⟨T, ts, rfl, hn, rfl, q⟩ := q
      rw [q _ _ ⟨vs, ws, us, h1, h2, h3, rfl, rfl⟩]
      refine ⟨F, O, R.newTup hn (.cons ?_ (.cons ?_ (.cons ?_ .nil)))⟩
      · rw [hw1]; exact q1
      · rw [hw2]; exact q2
      · rw [hw3]; exact q3
    · cases e
  stop := fun lv st tm σ tv H hc R => by
    obtain ⟨F, O, R⟩ := R
    obtain ⟨a', vs, e1, h1, r1⟩ := R.pop.pop.seq hc.1 hi
    cases e1
    obtain ⟨b', ws, e2, h2, r2⟩ := R.pop.seq hc.2.1 hj
    cases e2
    obtain ⟨c', us, e3, h3, r3⟩ := R.seq hc.2.2 hk
    cases e3
    refine ⟨_, vs, ws, us, h1, h2, h3, ?_, rfl⟩
    rw [zip3D_len, r1.length, r2.length, r3.length]
end
def cZip3 (ta : DTA) : DTI := fun st Q => ta st fun ds st' => match ds with
  | [d, d2, d3] => (match pyO st' d, pyO st' d2, pyO st' d3 with
    | some x, some y, some z => (match itemsD x, itemsD y, itemsD z with
      | some xs, some ys, some zs => Q (zip3D xs ys zs) [d3, d2, d] (fun st => pyO st d = some x ∧ pyO st d2 = some y ∧ pyO st d3 = some z) st'
      | _, _, _ => False)
    | _, _, _ => False)
  | _ => False
section
variable {X : Cx} {B : Ba} {lk : List Nat} {elts : List Expr} {kk : Nat} {tpos : Pos}
theorem di_zip3 {e e2 e3 : Expr} {ta : DTA} {p pos : Pos} (hg : Gl X "zip") (hm : X.mg "zip" = none) (ha : DA X B lk [e, e2, e3] ta) (hs : starEach [e, e2, e3] X.env = (false, eval e X.env) :: starEach [e2, e3] X.env := by rfl) (hpl : (backTo pos (starEach [e2, e3] X.env)).any (·.1) = false := by rfl) :
    DI X B lk (.Tuple elts kk tpos) (.Call (.Name "zip" p) [e, e2, e3] [] pos) (cZip3 ta) :=
  PI.weak (pi_zip3K hg hm ha hs hpl) fun σ H R ⟨lv, st, tm, tv, Q0, L, Rl, h, k⟩ => by
    refine ⟨lv, st, tm, tv, _, L, Rl, h, fun ds st' vs H' q hl R' => ?_⟩
    split at q
    · rename_i d d2 d3
      match vs, hl with
      | [v, v2, v3], _ =>
        have R2 : Rel X.K B lv st' (d3 :: d2 :: d :: tm) σ (v3 :: v2 :: v :: tv) H' := R'
        split at q
        · rename_i x y z e1 e3 e5
          split at q
          · rename_i xs ys zs e2 e4 e6
            obtain ⟨F, O, R3⟩ := R2
            obtain ⟨c, ts, rfl, h3, r3⟩ := R3.seq e5 e6
            obtain ⟨b, us, rfl, h2, r2⟩ := R3.pop.seq e3 e4
            obtain ⟨a, ws, rfl, h1, r⟩ := R3.pop.pop.seq e1 e2
            exact ⟨_, _, _, a, b, c, ws, us, ts, rfl, h1, h2, h3, k _ [d3, d2, d] _ st' [.ref c, .ref b, .ref a] _ _ q (wk_zip3 e2 e4 e6) rfl ⟨F, O, R3⟩⟩
          · exact q.elim
        · exact q.elim
    · exact q.elim
end
def Zp3K (ds st' : List Vl) (Q : QIt) : Prop := match ds with
  | [d, d2, d3] => (match pyO st' d, pyO st' d2, pyO st' d3 with
    | some x, some y, some z => (match itemsD x, itemsD y, itemsD z with
      | some xs, some ys, some zs => Q (zip3D xs ys zs) [d3, d2, d] (fun st => pyO st d = some x ∧ pyO st d2 = some y ∧ pyO st d3 = some z) st'
      | _, _, _ => False)
    | _, _, _ => False)
  | _ => False
section
variable {st : List Vl} {QI : QIt} {v w u : Vl} {x y z : PyData} {xs ys zs : List PyData}
theorem s_zip3 {tr : DTA} (h : tr st fun ds st' => Zp3K ds st' QI) : cZip3 tr st QI := h
theorem s_zip3K (e1 : pyO st v = some x) (e2 : pyO st w = some y) (e0 : pyO st u = some z) (e3 : itemsD x = some xs) (e4 : itemsD y = some ys) (e5 : itemsD z = some zs) (h : QI (zip3D xs ys zs) [u, w, v] (fun st => pyO st v = some x ∧ pyO st w = some y ∧ pyO st u = some z) st) : Zp3K [v, w, u] st QI := by
  show (match pyO st v, pyO st w, pyO st u with
    | some x, some y, some z => (match itemsD x, itemsD y, itemsD z with
      | some xs, some ys, some zs => QI (zip3D xs ys zs) [u, w, v] (fun st => pyO st v = some x ∧ pyO st w = some y ∧ pyO st u = some z) st
      | _, _, _ => False)
    | _, _, _ => False)
  rw [e1, e2, e0]; dsimp only; rw [e3, e4, e5]; exact h
end
/-! ### x[i] += e -/
def pgL (K : PySem.W.Frag) : V → V → Hp → VK → Prop := fun o i H Q => ∃ p xs k v, o = .ref p ∧ i = .int k ∧ 0 ≤ k ∧ SqL K H p xs ∧ atI xs k = some v ∧ Q v H
theorem pget_list {X : Cx} : PGet X (pgL X.K) := by
  intro pins s σ H o i ov iv Q I ro ri h
  obtain ⟨p, xs, k, z, rfl, rfl, h0, hq, he, q⟩ := h
  cases ro
  obtain ⟨t, rfl⟩ := ri
  obtain ⟨its, r, pl, hz⟩ := I.list hq
  obtain ⟨j, h1, h2, h3, h4, h5⟩ := atI_get he
  obtain ⟨w, ew, rw'⟩ := r.get h2
  have hl := r.length
  have hn := line63
  have fin : EP X pins σ Q w s := ⟨z, H, I, rw', q⟩
  have hj : k.toNat = j := by
    rw [seqIndex_of h0 h5] at h1
    exact Option.some.inj h1
  exact wpAny_getItem_list pl.isList h0 (by omega) (by rw [hj]; simpa using ew) fin
def AgK (te : DT) (D : DEnds) (o i : Vl) (st2 : List Vl) : Prop := match o, i with
  | .bor s, .fr (.int k) => ∃ xs x, st2[s]? = some (.ow xs) ∧ 0 ≤ k ∧ atI xs k = some (.int x) ∧ te st2 fun y st3 => ∃ b ys j, y = .fr (.int b) ∧ st3[s]? = some (.ow ys) ∧ ixN ys.length k = some j ∧ D.nx (st3.set s (.ow (ys.set j (.int (x + b)))))
  | _, _ => False
def cAugS (to ti te : DT) : DTS := fun D st => to st fun o st1 => ti st1 fun i st2 => AgK te D o i st2
section
variable {X : Cx} {B : Ba} {lk : List Nat} {to ti te : DT}

theorem ds_augS {o i e : Expr} {pos tpos : Pos} (ho : DE X B lk o to) (hi : DE X B lk i ti) (he : DE X B lk e te)
    (ha : ∀ ov iv new, augStore i ov iv new = (do holding [new, ov, iv] (setItem ov iv new); release [new, ov, iv] []; pure .next) := by intros; rfl) :
    DS X B lk (.AugAssign (.Subscript o i tpos) .Add e pos) (cAugS to ti te) :=
  PS.weak (ps_augS ho hi pget_list he ip_add set_list ha) fun D σ H ⟨lv, st, tm, tv, D0, L, Bt, R, h, k⟩ => by
    refine ⟨lv, st, tm, tv, _, L, R, h, fun o' st1 ov H1 q1 R1 => ⟨lv, st1, o' :: tm, ov :: tv, _, L, R1, q1, fun i' st2 iv H2 q2 R2 => ?_⟩⟩
    unfold AgK at q2
    split at q2
    · rename_i s k'
      obtain ⟨xs, x, e1, h0, hx, q⟩ := q2
      obtain rfl := R2.isInt
      obtain ⟨F, O, R3⟩ := R2
      have R4 := R3.pop
      obtain ⟨a, ws, rfl, ho', h1, r1, hs⟩ := R4.ofAlias e1
      obtain ⟨w, hw, rw'⟩ := atI_rp r1 hx
      cases rw'
      refine ⟨a, ws, k', .int x, rfl, rfl, h0, SqL.of h1, hw, ?_⟩
      refine ⟨lv, st2, .bor s :: tm, .ref a :: tv, _, L, ⟨F, O, R4⟩, q, fun y st3 v H3 q3 R5 => ?_⟩
      obtain ⟨b, ys, j, rfl, e3, hj, q⟩ := q3
      obtain rfl := R5.isInt
      obtain ⟨F, O, R6⟩ := R5
      obtain ⟨a2, ws2, e4, ho2, h2, r2, hs2⟩ := R6.pop.ofAlias e3
      cases e4
      exact ⟨x, b, rfl, rfl, a, ws2, k', j, rfl, rfl, h2, by rw [r2.length]; exact hj, k.nx _ _ _ q ⟨F, O, R6.pop.pop.putL ho2 h2 hs2 (RpA.set (.int _) j r2)⟩⟩
    · exact q2.elim
end
section
variable {st : List Vl} {to ti te : DT} {D : DEnds}
theorem s_augS (h : to st fun o st1 => ti st1 fun i st2 => AgK te D o i st2) : cAugS to ti te D st := h
theorem s_augK {s : Nat} {k : Int} {xs : List PyData} (x : Int) (e : st[s]? = some (.ow xs)) (h0 : 0 ≤ k) (hx : atI xs k = some (.int x)) (h : te st fun y st3 => ∃ b ys j, y = .fr (.int b) ∧ st3[s]? = some (.ow ys) ∧ ixN ys.length k = some j ∧ D.nx (st3.set s (.ow (ys.set j (.int (x + b)))))) : AgK te D (.bor s) (.fr (.int k)) st := ⟨xs, x, e, h0, hx, h⟩
end
end DL

/-! Ways: breaks of lines. -/
namespace DL
open PySem PySem.Spec PyProof.Rows L2
abbrev Ln := Int × Int
/-- a line at a fraction, so often as its second number tells -/
def ev (p q : Int) (t : Ln) : Int := p * t.2 + q * t.1
def wor (l t : Ln) : Int := l.1 * (t.2 - t.1) + l.2 * t.1
theorem wor_ev (l t : Ln) : wor l t = ev l.1 (l.2 - l.1) t := by
  unfold wor ev
  rw [Int.mul_sub, Int.sub_mul]
  omega
theorem ev_sub (p q p' q' : Int) (t : Ln) : ev p q t - ev p' q' t = ev (p - p') (q - q') t := by
  unfold ev
  rw [Int.sub_mul, Int.sub_mul]
  omega
def fle (s t : Ln) : Prop := s.1 * t.2 ≤ t.1 * s.2
def flt (s t : Ln) : Prop := s.1 * t.2 < t.1 * s.2
theorem mul3 (a b c : Int) : a * b * c = a * c * b := by rw [Int.mul_assoc, Int.mul_comm b c, Int.mul_assoc]
theorem ev_up {p q : Int} {t u : Ln} (hq : 0 ≤ q) (h : fle t u) : ev p q t * u.2 ≤ ev p q u * t.2 := by
  unfold ev fle at *
  rw [Int.add_mul, Int.add_mul, mul3 p t.2 u.2]
  have h2 := Int.mul_le_mul_of_nonneg_left h hq
  rw [Int.mul_assoc q t.1 u.2, Int.mul_assoc q u.1 t.2]
  omega
theorem ev_down {p q : Int} {s t : Ln} (hq : q ≤ 0) (h : fle s t) : ev p q t * s.2 ≤ ev p q s * t.2 := by
  unfold ev fle at *
  rw [Int.add_mul, Int.add_mul, mul3 p t.2 s.2]
  have h2 := Int.mul_le_mul_of_nonpos_left hq h
  rw [Int.mul_assoc q t.1 s.2, Int.mul_assoc q s.1 t.2]
  omega
theorem nonpos_of_mul {x y : Int} (hy : 0 < y) (h : x * y ≤ 0) : x ≤ 0 := by
  by_cases hx : x ≤ 0
  · exact hx
  · have := Int.mul_pos (show 0 < x by omega) hy
    omega
theorem mul_nonpos {x y : Int} (hx : x ≤ 0) (hy : 0 < y) : x * y ≤ 0 := by
  have := Int.mul_le_mul_of_nonneg_right hx (Int.le_of_lt hy)
  omega
theorem ev_mid {p q : Int} {s t u : Ln} (hs : 0 < s.2) (ht : 0 < t.2) (hu : 0 < u.2) (h1 : fle s t) (h2 : fle t u) (a : ev p q s ≤ 0) (b : ev p q u ≤ 0) : ev p q t ≤ 0 := by
  rcases Int.le_total 0 q with hq | hq
  · have h3 := ev_up (p := p) hq h2
    exact nonpos_of_mul hu (Int.le_trans h3 (mul_nonpos b ht))
  · have h3 := ev_down (p := p) hq h1
    exact nonpos_of_mul hs (Int.le_trans h3 (mul_nonpos a ht))
/-- nought at a place strictly between, nowhere above: nought everywhere -/
theorem ev_zero {p q : Int} {s t u : Ln} (hs : 0 < s.2) (ht : 0 < t.2) (hu : 0 < u.2) (h1 : flt s t) (h2 : flt t u) (a : ev p q s ≤ 0) (b : ev p q u ≤ 0) (c : ev p q t = 0) : p = 0 ∧ q = 0 := by
  have hq : q = 0 := by
    rcases Int.lt_trichotomy q 0 with hq | hq | hq
    · exfalso
      have e : ev p q t * s.2 - ev p q s * t.2 = q * (t.1 * s.2 - s.1 * t.2) := by
        unfold ev
        rw [Int.add_mul, Int.add_mul, mul3 p t.2 s.2, Int.mul_sub, Int.mul_assoc q t.1 s.2, Int.mul_assoc q s.1 t.2]
        omega
      have h3 := Int.mul_neg_of_neg_of_pos hq (show 0 < t.1 * s.2 - s.1 * t.2 by unfold flt at h1; omega)
      have h4 := mul_nonpos a ht
      rw [c, Int.zero_mul] at e
      omega
    · exact hq
    · exfalso
      have e : ev p q u * t.2 - ev p q t * u.2 = q * (u.1 * t.2 - t.1 * u.2) := by
        unfold ev
        rw [Int.add_mul, Int.add_mul, mul3 p u.2 t.2, Int.mul_sub, Int.mul_assoc q u.1 t.2, Int.mul_assoc q t.1 u.2]
        omega
      have h3 := Int.mul_pos hq (show 0 < u.1 * t.2 - t.1 * u.2 by unfold flt at h2; omega)
      have h4 := mul_nonpos b ht
      rw [c, Int.zero_mul] at e
      omega
  refine ⟨?_, hq⟩
  unfold ev at c
  rw [hq, Int.zero_mul, Int.add_zero] at c
  rcases Int.mul_eq_zero.mp c with z | z
  · exact z
  · omega
theorem flt_le {s t : Ln} (h : flt s t) : fle s t := Int.le_of_lt h
theorem fle_trans {s t u : Ln} (hs : 0 < s.2) (ht : 0 < t.2) (hu : 0 < u.2) (h1 : fle s t) (h2 : fle t u) : fle s u := by
  unfold fle at *
  have a := Int.mul_le_mul_of_nonneg_right h1 (Int.le_of_lt hu)
  have b := Int.mul_le_mul_of_nonneg_right h2 (Int.le_of_lt hs)
  have c : s.1 * u.2 * t.2 ≤ u.1 * s.2 * t.2 := by
    rw [mul3 s.1 u.2 t.2, mul3 u.1 s.2 t.2]
    rw [mul3 t.1 u.2 s.2] at b
    omega
  exact Int.le_of_mul_le_mul_right c ht
def bestAt (L : List Ln) (h t : Ln) : Prop := h ∈ L ∧ ∀ l ∈ L, wor l t ≤ wor h t
theorem wor_dif (l h t : Ln) : wor l t ≤ wor h t ↔ ev (l.1 - h.1) ((l.2 - l.1) - (h.2 - h.1)) t ≤ 0 := by
  rw [← ev_sub, ← wor_ev, ← wor_ev]; omega
theorem wor_one (l : Ln) : wor l (1, 1) = l.2 := by simp [wor]
theorem wor_zero (l : Ln) : wor l (0, 1) = l.1 := by simp [wor]
/-! ### the first break behind -/
def low (a b : Int) : Ln := (lowN a b, lowD a b)
def crs (h l : Ln) : Ln := low (h.1 - l.1) (h.1 - l.1 + l.2 - h.2)
def brkStep (h : Ln) (f : Option Ln) (l : Ln) : Option Ln := if h.2 < l.2 then (match f with
  | none => some (crs h l)
  | some g => if (crs h l).1 * g.2 < g.1 * (crs h l).2 then some (crs h l) else some g) else f
def brk (L : List Ln) (h : Ln) : Option Ln := L.foldl (brkStep h) none
theorem brk_snoc (h : Ln) (L : List Ln) (l : Ln) (f : Option Ln) : (L ++ [l]).foldl (brkStep h) f = brkStep h (L.foldl (brkStep h) f) l := by rw [List.foldl_append]; rfl
/-- what a crossing is -/
structure Crs (h l t : Ln) : Prop where
  pos : 0 < t.2
  eq : wor l t = wor h t
  cmp : ∀ s : Ln, 0 < s.2 → (wor l s ≤ wor h s ↔ fle s t)
  cmpS : ∀ s : Ln, 0 < s.2 → (wor l s < wor h s ↔ flt s t)
theorem low_g {a b : Int} (h : 0 < b) : ∃ g : Int, 0 < g ∧ a = g * lowN a b ∧ b = g * lowD a b := by
  have hg := gcd_pos (a := a) (b := b) (by omega)
  refine ⟨(Int.gcd a b : Nat), by omega, ?_, ?_⟩
  · unfold lowN
    rw [if_neg (by omega)]
    exact (Int.mul_ediv_cancel' (Int.gcd_dvd_left _ _)).symm
  · unfold lowD
    have e : ((b.natAbs : Nat) : Int) = b := by omega
    rw [e]
    exact (Int.mul_ediv_cancel' (Int.gcd_dvd_right _ _)).symm
theorem crs_ok {h l : Ln} (hp : 0 < h.1 - l.1 + l.2 - h.2) : Crs h l (crs h l) := by
  obtain ⟨g, g0, ea, eb⟩ := low_g (a := h.1 - l.1) hp
  have key : ∀ s : Ln, wor l s - wor h s = g * ((crs h l).2 * s.1 - (crs h l).1 * s.2) := fun s => by
    rw [wor_ev, wor_ev, ev_sub, Int.mul_sub, ← Int.mul_assoc, ← Int.mul_assoc]
    show ev _ _ s = g * lowD (h.1 - l.1) (h.1 - l.1 + l.2 - h.2) * s.1 - g * lowN (h.1 - l.1) (h.1 - l.1 + l.2 - h.2) * s.2
    rw [← ea, ← eb]
    unfold ev
    rw [show l.1 - h.1 = -(h.1 - l.1) by omega, Int.neg_mul, show l.2 - l.1 - (h.2 - h.1) = h.1 - l.1 + l.2 - h.2 by omega]
    omega
  refine ⟨?_, ?_, fun s hs => ?_, fun s hs => ?_⟩
  · have := low_pos (a := h.1 - l.1) (b := h.1 - l.1 + l.2 - h.2) (by omega)
    show 0 < lowD _ _
    omega
  · have := key (crs h l)
    rw [Int.mul_comm (crs h l).2] at this
    rw [Int.sub_self, Int.mul_zero] at this
    omega
  · have k := key s
    unfold fle
    rw [Int.mul_comm s.1]
    constructor
    · intro z
      have : g * ((crs h l).2 * s.1 - (crs h l).1 * s.2) ≤ g * 0 := by rw [← k]; omega
      have := Int.le_of_mul_le_mul_left this g0
      omega
    · intro z
      have := Int.mul_le_mul_of_nonneg_left (show (crs h l).2 * s.1 - (crs h l).1 * s.2 ≤ 0 by omega) (Int.le_of_lt g0)
      omega
  · have k := key s
    unfold flt
    rw [Int.mul_comm s.1]
    constructor
    · intro z
      have : g * ((crs h l).2 * s.1 - (crs h l).1 * s.2) < g * 0 := by rw [← k]; omega
      have := Int.lt_of_mul_lt_mul_left this (Int.le_of_lt g0)
      omega
    · intro z
      have := Int.mul_lt_mul_of_pos_left (show (crs h l).2 * s.1 - (crs h l).1 * s.2 < 0 by omega) g0
      omega
theorem filter_lt {α : Type} {p q : α → Bool} (h : ∀ x, q x = true → p x = true) : ∀ {L : List α}, (∃ x ∈ L, p x = true ∧ q x = false) → (L.filter q).length < (L.filter p).length
  | [], ⟨x, hx, _⟩ => by cases hx
  | a :: L, ⟨x, hx, h1, h2⟩ => by
    have le : (L.filter q).length ≤ (L.filter p).length := by
      rw [← List.countP_eq_length_filter, ← List.countP_eq_length_filter]
      exact List.countP_mono_left fun x _ => h x
    rcases List.mem_cons.mp hx with rfl | hx
    · rw [List.filter_cons_of_pos h1, List.filter_cons_of_neg (by rw [h2]; decide), List.length_cons]
      omega
    · have ih := filter_lt h ⟨x, hx, h1, h2⟩
      cases e : q a with
      | true => rw [List.filter_cons_of_pos e, List.filter_cons_of_pos (h a e), List.length_cons, List.length_cons]; omega
      | false =>
        rw [List.filter_cons_of_neg (by rw [e]; decide)]
        cases e2 : p a with
        | true => rw [List.filter_cons_of_pos e2, List.length_cons]; omega
        | false => rw [List.filter_cons_of_neg (by rw [e2]; decide)]; exact ih
def BrkInv (h : Ln) (S : List Ln) (f : Option Ln) : Prop := (f = none → ∀ l ∈ S, l.2 ≤ h.2) ∧ ∀ t, f = some t → (∃ l ∈ S, h.2 < l.2 ∧ t = crs h l) ∧ ∀ l ∈ S, h.2 < l.2 → fle t (crs h l)
theorem brk_step {h l : Ln} {S : List Ln} {f : Option Ln} (hp : ∀ l ∈ S, h.2 < l.2 → 0 < h.1 - l.1 + l.2 - h.2) (hl : h.2 < l.2 → 0 < h.1 - l.1 + l.2 - h.2) (I : BrkInv h S f) : BrkInv h (S ++ [l]) (brkStep h f l) := by
  obtain ⟨I1, I2⟩ := I
  unfold brkStep
  by_cases c : h.2 < l.2
  · rw [if_pos c]
    cases f with
    | none =>
      refine ⟨fun z => (nomatch z), fun t e => ?_⟩
      cases e
      refine ⟨⟨l, by simp, c, rfl⟩, fun k hk ck => ?_⟩
      rcases List.mem_append.mp hk with hk | hk
      · have := I1 rfl k hk; omega
      · rw [List.mem_singleton.mp hk]; exact Int.le_refl _
    | some g =>
      obtain ⟨⟨l0, hl0, c0, e0⟩, I3⟩ := I2 g rfl
      have gp : 0 < g.2 := by rw [e0]; exact (crs_ok (hp l0 hl0 c0)).pos
      have np : 0 < (crs h l).2 := (crs_ok (hl c)).pos
      dsimp only
      by_cases d : (crs h l).1 * g.2 < g.1 * (crs h l).2
      · rw [if_pos d]
        refine ⟨fun z => (nomatch z), fun t e => ?_⟩
        cases e
        refine ⟨⟨l, by simp, c, rfl⟩, fun k hk ck => ?_⟩
        rcases List.mem_append.mp hk with hk | hk
        · exact fle_trans np gp (crs_ok (hp k hk ck)).pos (Int.le_of_lt d) (I3 k hk ck)
        · rw [List.mem_singleton.mp hk]; exact Int.le_refl _
      · rw [if_neg d]
        refine ⟨fun z => (nomatch z), fun t e => ?_⟩
        cases e
        refine ⟨⟨l0, by simp [hl0], c0, e0⟩, fun k hk ck => ?_⟩
        rcases List.mem_append.mp hk with hk | hk
        · exact I3 k hk ck
        · rw [List.mem_singleton.mp hk]; unfold fle; omega
  · rw [if_neg c]
    refine ⟨fun z k hk => ?_, fun t e => ?_⟩
    · rcases List.mem_append.mp hk with hk | hk
      · exact I1 z k hk
      · rw [List.mem_singleton.mp hk]; omega
    · obtain ⟨⟨l0, hl0, c0, e0⟩, I3⟩ := I2 t e
      refine ⟨⟨l0, by simp [hl0], c0, e0⟩, fun k hk ck => ?_⟩
      rcases List.mem_append.mp hk with hk | hk
      · exact I3 k hk ck
      · rw [List.mem_singleton.mp hk] at ck; exact absurd ck c
theorem brk_inv {h : Ln} : ∀ (L S : List Ln) (f : Option Ln), (∀ l ∈ S ++ L, h.2 < l.2 → 0 < h.1 - l.1 + l.2 - h.2) → BrkInv h S f → BrkInv h (S ++ L) (L.foldl (brkStep h) f)
  | [], S, f, _, I => by rw [List.append_nil]; exact I
  | l :: L, S, f, hp, I => by
    have := brk_inv L (S ++ [l]) (brkStep h f l) (by simpa using hp) (brk_step (fun k hk => hp k (by simp [hk])) (hp l (by simp)) I)
    simpa using this
theorem brk_ok {h : Ln} {L : List Ln} (hp : ∀ l ∈ L, h.2 < l.2 → 0 < h.1 - l.1 + l.2 - h.2) : BrkInv h L (brk L h) := by
  have := brk_inv (h := h) L [] none (by simpa using hp) ⟨fun _ l hl => (by cases hl), fun t e => (by cases e)⟩
  rw [List.nil_append] at this
  exact this
/-! ### the steepest of the best -/
/-- h is best at t, and the steepest there -/
def Steep (L : List Ln) (h t : Ln) : Prop := bestAt L h t ∧ ∀ l ∈ L, wor l t = wor h t → l.2 - l.1 ≤ h.2 - h.1
theorem steep_end {l h t : Ln} (ht : 0 < t.2) (h1 : flt t (1, 1)) (e : wor l t = wor h t) : l.2 - l.1 ≤ h.2 - h.1 ↔ l.2 ≤ h.2 := by
  unfold flt at h1
  have k : (l.2 - h.2) * t.2 = ((l.2 - l.1) - (h.2 - h.1)) * (t.2 - t.1) := by
    unfold wor at e
    simp only [Int.mul_sub, Int.sub_mul] at e ⊢
    omega
  have d : 0 < t.2 - t.1 := by simp only at h1; omega
  constructor
  · intro z
    have := Int.mul_le_mul_of_nonneg_right (show (l.2 - l.1) - (h.2 - h.1) ≤ 0 by omega) (Int.le_of_lt d)
    have := nonpos_of_mul ht (show (l.2 - h.2) * t.2 ≤ 0 by omega)
    omega
  · intro z
    have := mul_nonpos (show l.2 - h.2 ≤ 0 by omega) ht
    have := nonpos_of_mul d (show ((l.2 - l.1) - (h.2 - h.1)) * (t.2 - t.1) ≤ 0 by omega)
    omega
/-! ### the walk -/
def Chain (L : List Ln) : Ln → Ln → List Ln → Prop
  | s, h, [] => bestAt L h s ∧ bestAt L h (1, 1)
  | s, h, t :: T => bestAt L h s ∧ flt s t ∧ flt t (1, 1) ∧ 0 < t.2 ∧ 0 ≤ t.1 ∧ bestAt L h t ∧ ∃ h', h.2 < h'.2 ∧ Steep L h' t ∧ Chain L t h' T
variable (stee : List Ln → Ln → Ln)
def wrun (L : List Ln) : Nat → Ln → List Ln
  | 0, _ => []
  | n + 1, h => match brk L h with
    | none => []
    | some t => t :: wrun L n (stee L t)
theorem run_chain {L : List Ln} (hs : ∀ t, L ≠ [] → 0 < t.2 → Steep L (stee L t) t) : ∀ (n : Nat) (s h : Ln), 0 < s.2 → 0 ≤ s.1 → flt s (1, 1) → Steep L h s → (L.filter fun l => decide (h.2 < l.2)).length ≤ n → Chain L s h (wrun stee L n h)
  | 0, s, h, s0, s1, s2, st, hn => by
    refine ⟨st.1, st.1.1, fun l hl => ?_⟩
    rw [wor_one, wor_one]
    have h2 := List.eq_nil_of_length_eq_zero (Nat.le_zero.mp hn)
    have h3 : l ∉ L.filter fun l => decide (h.2 < l.2) := by rw [h2]; simp
    rw [List.mem_filter] at h3
    by_cases c : h.2 < l.2
    · exact absurd ⟨hl, decide_eq_true c⟩ h3
    · omega
  | n + 1, s, h, s0, s1, s2, st, hn => by
    have hstrict : ∀ l ∈ L, h.2 < l.2 → wor l s < wor h s := fun l hl c => by
      have h1 := st.1.2 l hl
      rcases Int.lt_or_eq_of_le h1 with z | z
      · exact z
      · have := (steep_end s0 s2 z).mp (st.2 l hl z)
        omega
    have hp : ∀ l ∈ L, h.2 < l.2 → 0 < h.1 - l.1 + l.2 - h.2 := fun l hl c => by
      have h1 := hstrict l hl c
      by_cases z : h.1 ≤ l.1
      · exfalso
        unfold flt at s2
        have a := Int.mul_le_mul_of_nonneg_right z (show 0 ≤ s.2 - s.1 by simp only at s2; omega)
        have b := Int.mul_le_mul_of_nonneg_right (Int.le_of_lt c) s1
        unfold wor at h1
        omega
      · omega
    obtain ⟨b1, b2⟩ := brk_ok hp
    unfold wrun
    cases e : brk L h with
    | none =>
      refine ⟨st.1, st.1.1, fun l hl => ?_⟩
      rw [wor_one, wor_one]
      exact b1 e l hl
    | some t =>
      obtain ⟨⟨l0, hl0, c0, rfl⟩, b3⟩ := b2 t e
      have C := crs_ok (hp l0 hl0 c0)
      have hst : flt s (crs h l0) := (C.cmpS s s0).mp (hstrict l0 hl0 c0)
      have ht1 : flt (crs h l0) (1, 1) := by
        have h1 := C.cmp (1, 1) (by decide)
        rw [wor_one, wor_one] at h1
        unfold fle at h1
        unfold flt
        have h2 : ¬ l0.2 ≤ h.2 := by omega
        have h3 := fun z => h2 (h1.mpr z)
        simp only at h3 ⊢
        omega
      have ht0 : 0 ≤ (crs h l0).1 := by
        have h1 := Int.mul_nonneg s1 (Int.le_of_lt C.pos)
        unfold flt at hst
        by_cases z : 0 ≤ (crs h l0).1
        · exact z
        · exfalso
          have := Int.mul_neg_of_neg_of_pos (show (crs h l0).1 < 0 by omega) s0
          omega
      have hbt : bestAt L h (crs h l0) := by
        refine ⟨st.1.1, fun l hl => ?_⟩
        by_cases c : h.2 < l.2
        · exact ((crs_ok (hp l hl c)).cmp _ C.pos).mpr (b3 l hl c)
        · rw [wor_dif]
          refine ev_mid s0 C.pos (show (0 : Int) < (1, 1).2 by decide) (flt_le hst) (flt_le ht1) ((wor_dif l h s).mp (st.1.2 l hl)) ((wor_dif l h (1, 1)).mp ?_)
          rw [wor_one, wor_one]; omega
      have S := hs (crs h l0) (List.ne_nil_of_mem hl0) C.pos
      have e0 : wor l0 (crs h l0) = wor (stee L (crs h l0)) (crs h l0) := by
        have a := S.1.2 h st.1.1
        have b := hbt.2 _ S.1.1
        rw [C.eq]; omega
      have hup : h.2 < (stee L (crs h l0)).2 := by
        have := (steep_end C.pos ht1 e0).mp (S.2 l0 hl0 e0)
        omega
      refine ⟨st.1, hst, ht1, C.pos, ht0, hbt, stee L (crs h l0), hup, S, run_chain hs n _ _ C.pos ht0 ht1 S ?_⟩
      have : (L.filter fun l => decide ((stee L (crs h l0)).2 < l.2)).length < (L.filter fun l => decide (h.2 < l.2)).length :=
        filter_lt (fun x hx => decide_eq_true (by have := of_decide_eq_true hx; omega)) ⟨l0, hl0, decide_eq_true c0, decide_eq_false (by have := (steep_end C.pos ht1 e0).mp (S.2 l0 hl0 e0); omega)⟩
      omega
/-! ### as the program has them -/
def lnD (l : Ln) : PyData := .tuple [.int l.1, .int l.2]
def frO : Option Ln → PyData
  | none => .none
  | some t => lnD t
def steeP : List (List Int) → Ln
  | [] => (0, 0)
  | p :: ps => ((mxP p ps).getD 2 0, (mxP p ps).getD 2 0 + (mxP p ps).getD 1 0)
def tri (t l : Ln) : List Int := [wor l t, l.2 - l.1, l.1]
def steeL (L : List Ln) (t : Ln) : Ln := steeP (L.map (tri t))
def topP : List (List Int) → Ln
  | [] => (0, 1)
  | p :: ps => ((mxP p ps).getD 0 0, (mxP p ps).getD 1 0)
def duo (l : Ln) : List Int := [l.1, l.2]
def hdL (L : List Ln) : Ln := topP (L.map duo)
def brks (L : List Ln) : List Ln := wrun steeL L L.length (hdL L)
theorem ltW_cons (a b : Int) (as bs : List Int) : ltW (a :: as) (b :: bs) = (decide (a < b) || (decide (a = b) && ltW as bs)) := by
  rw [Bool.eq_iff_iff]
  simp only [ltW, decide_eq_true_eq, Bool.or_eq_true, Bool.and_eq_true, List.cons_lt_cons_iff]
theorem mx_of_map {α : Type} {f : α → List Int} {L : List α} {p : List Int} {ps : List (List Int)} (e : L.map f = p :: ps) : (∃ l ∈ L, mxP p ps = f l) ∧ ∀ l ∈ L, ltW (mxP p ps) (f l) = false := by
  refine ⟨?_, fun l hl => ?_⟩
  · have h := mxP_mem ps p
    rw [← e] at h
    obtain ⟨l, hl, e2⟩ := List.mem_map.mp h
    exact ⟨l, hl, e2.symm⟩
  · refine mxP_ge ps p _ ?_
    rw [← e]
    exact List.mem_map.mpr ⟨l, hl, rfl⟩
theorem stee_ok {L : List Ln} (t : Ln) (hL : L ≠ []) (_ : 0 < t.2) : Steep L (steeL L t) t := by
  unfold steeL
  cases e : L.map (tri t) with
  | nil => exact absurd (List.map_eq_nil_iff.mp e) hL
  | cons p ps =>
    obtain ⟨⟨h, hh, eh⟩, hm⟩ := mx_of_map e
    have e2 : steeP (p :: ps) = h := by
      show ((mxP p ps).getD 2 0, (mxP p ps).getD 2 0 + (mxP p ps).getD 1 0) = h
      rw [eh]
      show (h.1, h.1 + (h.2 - h.1)) = h
      rw [show h.1 + (h.2 - h.1) = h.2 by omega]
    rw [e2]
    have key : ∀ l ∈ L, ¬ wor h t < wor l t ∧ ¬ (wor h t = wor l t ∧ (h.2 - h.1 < l.2 - l.1)) := fun l hl => by
      have h1 := hm l hl
      rw [eh] at h1
      unfold tri at h1
      rw [ltW_cons, ltW_cons, Bool.or_eq_false_iff, Bool.and_eq_false_iff, Bool.or_eq_false_iff] at h1
      obtain ⟨h2, h3⟩ := h1
      refine ⟨of_decide_eq_false h2, fun ⟨a, b⟩ => ?_⟩
      rcases h3 with h3 | ⟨h3, _⟩
      · exact of_decide_eq_false h3 a
      · exact of_decide_eq_false h3 b
    refine ⟨⟨hh, fun l hl => by have := (key l hl).1; omega⟩, fun l hl e => ?_⟩
    have := (key l hl).2
    by_cases c : h.2 - h.1 < l.2 - l.1
    · exact absurd ⟨e.symm, c⟩ this
    · omega
theorem hd_ok {L : List Ln} (hL : L ≠ []) : Steep L (hdL L) (0, 1) := by
  unfold hdL
  cases e : L.map duo with
  | nil => exact absurd (List.map_eq_nil_iff.mp e) hL
  | cons p ps =>
    obtain ⟨⟨h, hh, eh⟩, hm⟩ := mx_of_map e
    have e2 : topP (p :: ps) = h := by
      show ((mxP p ps).getD 0 0, (mxP p ps).getD 1 0) = h
      rw [eh]; rfl
    rw [e2]
    have key : ∀ l ∈ L, ¬ h.1 < l.1 ∧ ¬ (h.1 = l.1 ∧ h.2 < l.2) := fun l hl => by
      have h1 := hm l hl
      rw [eh] at h1
      unfold duo at h1
      rw [ltW_cons, ltW_cons, Bool.or_eq_false_iff, Bool.and_eq_false_iff, Bool.or_eq_false_iff] at h1
      obtain ⟨h2, h3⟩ := h1
      refine ⟨of_decide_eq_false h2, fun ⟨a, b⟩ => ?_⟩
      rcases h3 with h3 | ⟨h3, _⟩
      · exact of_decide_eq_false h3 a
      · exact of_decide_eq_false h3 b
    refine ⟨⟨hh, fun l hl => by rw [wor_zero, wor_zero]; have := (key l hl).1; omega⟩, fun l hl e => ?_⟩
    rw [wor_zero, wor_zero] at e
    have := (key l hl).2
    by_cases c : h.2 < l.2
    · exact absurd ⟨e.symm, c⟩ this
    · omega
theorem brks_chain {L : List Ln} (hL : L ≠ []) : Chain L (0, 1) (hdL L) (brks L) :=
  run_chain steeL (fun t _ ht => stee_ok t hL ht) L.length (0, 1) (hdL L) (by decide) (by decide) (by unfold flt; decide) (hd_ok hL) (List.length_filter_le _ _)
/-! bounds -/
def LB (l : Ln) : Prop := -(4 * 10 ^ 18) ≤ l.1 ∧ l.1 ≤ 4 * 10 ^ 18 ∧ -(4 * 10 ^ 18) ≤ l.2 ∧ l.2 ≤ 4 * 10 ^ 18
def FB (t : Ln) : Prop := 0 < t.2 ∧ t.2 ≤ 16 * 10 ^ 18 ∧ 0 ≤ t.1 ∧ t.1 ≤ t.2
/-- a pair of numbers that are not far -/
def FW (t : Ln) : Prop := t.1.natAbs < 2 ^ 900 ∧ t.2.natAbs < 2 ^ 900
theorem FW.k {n : Nat} (h : n < 2 ^ 900) : n < 2 ^ 1000 := Nat.lt_of_lt_of_le h (Nat.pow_le_pow_right (by decide) (by decide))
theorem FB.w {t : Ln} (h : FB t) : FW t := by
  obtain ⟨h1, h2, h3, h4⟩ := h
  have e : (2 : Nat) ^ 70 ≤ 2 ^ 900 := Nat.pow_le_pow_right (by decide) (by decide)
  exact ⟨Nat.lt_of_lt_of_le (by omega) e, Nat.lt_of_lt_of_le (by omega) e⟩
theorem crs_fb {h l : Ln} (hl : LB l) (hh : LB h) (a : 0 ≤ h.1 - l.1) (b : h.2 < l.2) : FB (crs h l) := by
  obtain ⟨l1, l2, l3, l4⟩ := hl
  obtain ⟨h1, h2, h3, h4⟩ := hh
  have hp : 0 < h.1 - l.1 + l.2 - h.2 := by omega
  obtain ⟨g, g0, ea, eb⟩ := low_g (a := h.1 - l.1) hp
  have C := crs_ok hp
  have p := C.pos
  have q : h.1 - l.1 + l.2 - h.2 = g * (crs h l).2 := eb
  have r : h.1 - l.1 = g * (crs h l).1 := ea
  have n0 : 0 ≤ (crs h l).1 := by
    by_cases z : 0 ≤ (crs h l).1
    · exact z
    · exfalso
      have := Int.mul_neg_of_pos_of_neg g0 (show (crs h l).1 < 0 by omega)
      omega
  have m1 := Int.mul_le_mul_of_nonneg_right (show (1 : Int) ≤ g by omega) (Int.le_of_lt p)
  refine ⟨p, by omega, n0, ?_⟩
  have : g * (crs h l).1 ≤ g * (crs h l).2 := by omega
  exact Int.le_of_mul_le_mul_left this g0
def bstN (L : List Ln) (t : Ln) : List Nat := greatI (L.map fun l => wor l t)
def bstE (L : List Ln) (t : Ln) : List Int := nums (greatI (L.map fun l => wor l t))
def bstB (a b : List Int) : List Int := a.filter fun x => decide (x ∈ b)
def bsts (L T : List Ln) : List (List Int) := List.zipWith bstB (((0, 1) :: T ++ [(1, 1)]).map (bstE L)) ((((0, 1) :: T ++ [(1, 1)]).map (bstE L)).drop 1)
end DL

/-! Ways: who wins at each whole weight, and how often. -/
namespace DL
open PySem PySem.Spec PyProof.Rows L2
section
variable {L : List Ln} {h s t : Ln} {i : Nat}
theorem mxW_of {L : List Ln} {h t : Ln} (b : bestAt L h t) : mxW (L.map fun l => wor l t) = wor h t :=
  (mx_of (List.mem_map.mpr ⟨h, b.1, rfl⟩) fun y hy => by
    obtain ⟨l, hl, rfl⟩ := List.mem_map.mp hy
    exact b.2 l hl).symm
theorem mem_bst (b : bestAt L h t) : i ∈ bstN L t ↔ ∃ hi : i < L.length, wor L[i] t = wor h t := by
  unfold bstN greatI
  rw [mxW_of b, List.mem_filter, List.mem_range, List.length_map, decide_eq_true_eq]
  constructor
  · rintro ⟨h1, h2⟩
    refine ⟨h1, ?_⟩
    rw [List.getD_eq_getElem?_getD, List.getElem?_map, List.getElem?_eq_getElem h1] at h2
    exact h2
  · rintro ⟨h1, h2⟩
    refine ⟨h1, ?_⟩
    rw [List.getD_eq_getElem?_getD, List.getElem?_map, List.getElem?_eq_getElem h1]
    exact h2
theorem bst_ne (b : bestAt L h t) : bstN L t ≠ [] := by
  obtain ⟨j, hj, e⟩ := List.getElem_of_mem b.1
  have : j ∈ bstN L t := (mem_bst b).mpr ⟨hj, by rw [e]⟩
  exact List.ne_nil_of_mem this
theorem wor_scale (l : Ln) {k m : Int} {t : Ln} (e : k * t.2 = m * t.1) : t.2 * wor l (k, m) = m * wor l t := by
  unfold wor
  show t.2 * (l.1 * (m - k) + l.2 * k) = m * (l.1 * (t.2 - t.1) + l.2 * t.1)
  have e1 : t.2 * (l.1 * (m - k) + l.2 * k) = l.1 * (m * t.2) - l.1 * (k * t.2) + l.2 * (k * t.2) := by
    simp only [Int.mul_add, Int.mul_sub, Int.mul_comm, Int.mul_left_comm]
  have e2 : m * (l.1 * (t.2 - t.1) + l.2 * t.1) = l.1 * (m * t.2) - l.1 * (m * t.1) + l.2 * (m * t.1) := by
    simp only [Int.mul_add, Int.mul_sub, Int.mul_comm, Int.mul_left_comm]
  rw [e1, e2, e]
theorem bst_scale {k m : Int} (hm : 0 < m) (ht : 0 < t.2) (e : k * t.2 = m * t.1) : bstN L (k, m) = bstN L t := by
  unfold bstN
  rw [← great_scale (L.map fun l => wor l (k, m)) t.2 ht, ← great_scale (L.map fun l => wor l t) m hm, List.map_map, List.map_map]
  congr 1
  apply List.map_congr_left
  intro l _
  exact wor_scale l e
/-- between two places at which one line is best those are best that are so at both -/
theorem bst_mid {k : Ln} (hs : 0 < s.2) (hk : 0 < k.2) (ht : 0 < t.2) (h1 : flt s k) (h2 : flt k t) (a : bestAt L h s) (b : bestAt L h t) : bestAt L h k ∧ (bstN L s).filter (fun x => decide (x ∈ bstN L t)) = bstN L k := by
  have c : bestAt L h k := ⟨a.1, fun l hl => by
    rw [wor_dif]
    exact ev_mid hs hk ht (flt_le h1) (flt_le h2) ((wor_dif l h s).mp (a.2 l hl)) ((wor_dif l h t).mp (b.2 l hl))⟩
  refine ⟨c, ?_⟩
  have e1 : ∀ {u : Ln}, bestAt L h u → bstN L u = (List.range L.length).filter fun i => decide (wor (L.getD i (0, 0)) u = wor h u) := fun {u} bu => by
    unfold bstN greatI
    rw [mxW_of bu, List.length_map]
    apply List.filter_congr
    intro i hi
    have hi := List.mem_range.mp hi
    rw [List.getD_eq_getElem?_getD, List.getElem?_map, List.getElem?_eq_getElem hi, List.getD_eq_getElem?_getD, List.getElem?_eq_getElem hi]
    rfl
  rw [e1 a, e1 c, List.filter_filter]
  apply List.filter_congr
  intro i hi
  have hi := List.mem_range.mp hi
  rw [Bool.eq_iff_iff, Bool.and_eq_true, decide_eq_true_eq, decide_eq_true_eq, decide_eq_true_eq, mem_bst b]
  have eL : L.getD i (0, 0) = L[i] := by rw [List.getD_eq_getElem?_getD, List.getElem?_eq_getElem hi]; rfl
  rw [eL]
  have hl := List.getElem_mem hi
  have ea := (wor_dif L[i] h s).mp (a.2 _ hl)
  have eb := (wor_dif L[i] h t).mp (b.2 _ hl)
  have zz : ∀ u : Ln, wor L[i] u = wor h u ↔ ev (L[i].1 - h.1) ((L[i].2 - L[i].1) - (h.2 - h.1)) u = 0 := fun u => by
    rw [← ev_sub, ← wor_ev, ← wor_ev]; omega
  constructor
  · rintro ⟨⟨_, y⟩, x⟩
    rw [zz] at x y ⊢
    have n1 := ev_mid hs hk ht (flt_le h1) (flt_le h2) ea eb
    have neg : ∀ u, ev (-(L[i].1 - h.1)) (-((L[i].2 - L[i].1) - (h.2 - h.1))) u = - ev (L[i].1 - h.1) ((L[i].2 - L[i].1) - (h.2 - h.1)) u := fun u => by
      unfold ev; rw [Int.neg_mul, Int.neg_mul]; omega
    have n2 := ev_mid (p := -(L[i].1 - h.1)) (q := -((L[i].2 - L[i].1) - (h.2 - h.1))) hs hk ht (flt_le h1) (flt_le h2) (by rw [neg]; omega) (by rw [neg]; omega)
    rw [neg] at n2
    omega
  · intro z
    have := ev_zero hs hk ht h1 h2 ea eb ((zz k).mp z)
    have all : ∀ u, wor L[i] u = wor h u := fun u => by
      rw [zz, this.1, this.2]; unfold ev; omega
    exact ⟨⟨hi, all t⟩, all s⟩
end
theorem nums_filter (a b : List Nat) : bstB (nums a) (nums b) = nums (a.filter fun x => decide (x ∈ b)) := by
  unfold bstB nums
  rw [List.filter_map]
  congr 1
  apply List.filter_congr
  intro x _
  rw [Bool.eq_iff_iff]
  simp only [Function.comp, decide_eq_true_eq, List.mem_map]
  constructor
  · rintro ⟨y, hy, e⟩
    rw [show x = y by omega]; exact hy
  · intro h
    exact ⟨x, h, rfl⟩
def win (L : List Ln) (m k : Nat) : Nat := (bstN L ((k : Int), (m : Int))).getD 0 0
theorem getD_nums (a : List Nat) (i : Nat) : (nums a).getD i 0 = ((a.getD i 0 : Nat) : Int) := by
  unfold nums
  rw [List.getD_eq_getElem?_getD, List.getElem?_map, List.getD_eq_getElem?_getD]
  cases a[i]? <;> rfl
/-! counting -/
theorem countP_three {α : Type} {p q r u : α → Bool} (h : ∀ x, (if p x = true then 1 else 0) = (if q x = true then 1 else 0) + (if r x = true then 1 else 0) + (if u x = true then 1 else 0)) : ∀ l : List α, l.countP p = l.countP q + l.countP r + l.countP u
  | [] => rfl
  | x :: l => by
    rw [List.countP_cons, List.countP_cons, List.countP_cons, List.countP_cons, countP_three h l]
    have := h x
    omega
theorem count_one {m k0 : Nat} (h : k0 ≤ m) : (List.range (m + 1)).countP (fun k => decide (k = k0)) = 1 := by
  have := List.nodup_range (n := m + 1)
  have h2 : (List.range (m + 1)).count k0 = 1 := by
    rw [this.count, if_pos (List.mem_range.mpr (by omega))]
  refine Eq.trans ?_ h2
  unfold List.count
  apply List.countP_congr
  intro k _
  rw [decide_eq_true_eq, beq_iff_eq]
theorem count_btw {lo hi : Nat} : ∀ {m : Nat}, lo ≤ hi → hi ≤ m → (List.range (m + 1)).countP (fun k => decide (lo < k ∧ k ≤ hi)) = hi - lo
  | 0, h1, h2 => by
    have : lo = 0 := by omega
    have : hi = 0 := by omega
    subst lo hi
    rfl
  | m + 1, h1, h2 => by
    rw [List.range_succ, List.countP_append, List.countP_cons, List.countP_nil]
    by_cases c : hi ≤ m
    · rw [count_btw h1 c, if_neg (by rw [decide_eq_true_eq]; omega)]
      omega
    · by_cases d : lo ≤ m
      · have e : (List.range (m + 1)).countP (fun k => decide (lo < k ∧ k ≤ hi)) = (List.range (m + 1)).countP (fun k => decide (lo < k ∧ k ≤ m)) := by
          apply List.countP_congr
          intro k hk
          have := List.mem_range.mp hk
          rw [decide_eq_true_eq, decide_eq_true_eq]
          omega
        rw [e, count_btw d (Nat.le_refl _), if_pos (by rw [decide_eq_true_eq]; omega)]
        omega
      · have e : (List.range (m + 1)).countP (fun k => decide (lo < k ∧ k ≤ hi)) = 0 := by
          rw [List.countP_eq_zero]
          intro k hk
          have := List.mem_range.mp hk
          rw [decide_eq_true_eq]
          omega
        rw [e, if_neg (by rw [decide_eq_true_eq]; omega)]
        omega
theorem count_lift {m k0 : Nat} (h : k0 ≤ m) (c : Prop) [Decidable c] : (List.range (m + 1)).countP (fun (k : Nat) => decide (k = k0) && decide c) = if c then 1 else 0 := by
  by_cases hc : c
  · rw [if_pos hc]
    refine Eq.trans ?_ (count_one h)
    apply List.countP_congr
    intro k _
    simp [hc]
  · rw [if_neg hc, List.countP_eq_zero]
    intro k _
    simp [hc]
/-- places of a fraction among whole weights -/
def whB (m : Nat) (t : Ln) : Bool := decide ((m : Int) * t.1 % t.2 = 0)
def amid (m : Int) (s t : Ln) : Int := (m * t.1 - 1) / t.2 - m * s.1 / s.2
def wh1 (L : List Ln) (m i : Nat) (t : Ln) : Int := if whB m t = true ∧ (bstN L t).getD 0 0 = i then 1 else 0
def st1 (L : List Ln) (m i : Nat) (s t : Ln) : Int := if (bstB (bstE L s) (bstE L t)).getD 0 0 = (i : Int) then amid m s t else 0
def sumE (L : List Ln) (m i : Nat) : List Ln → Int
  | [] => wh1 L m i (1, 1)
  | t :: T => wh1 L m i t + sumE L m i T
def sumS (L : List Ln) (m i : Nat) : Ln → List Ln → Int
  | s, [] => st1 L m i s (1, 1)
  | s, t :: T => st1 L m i s t + sumS L m i t T
section
variable {L : List Ln} {h s t : Ln} {m i : Nat}
theorem one_at (hm : 0 < m) (hs : FB s) : (((List.range (m + 1)).countP (fun (k : Nat) => decide ((k : Int) * s.2 = s.1 * m) && decide (win L m k = i)) : Nat) : Int) = wh1 L m i s := by
  obtain ⟨s1, _, s3, s4⟩ := hs
  unfold wh1 whB
  by_cases c : (m : Int) * s.1 % s.2 = 0
  · obtain ⟨q, hq⟩ := Int.dvd_of_emod_eq_zero c
    have q0 : 0 ≤ q := by
      have h1 : 0 ≤ s.2 * q := by rw [← hq]; exact Int.mul_nonneg (by omega) s3
      by_cases z : 0 ≤ q
      · exact z
      · have := Int.mul_neg_of_pos_of_neg s1 (show q < 0 by omega)
        omega
    have qm : q ≤ m := by
      have h1 := Int.mul_le_mul_of_nonneg_left s4 (show (0 : Int) ≤ m by omega)
      rw [hq, Int.mul_comm (m : Int)] at h1
      exact Int.le_of_mul_le_mul_left h1 s1
    obtain ⟨q, rfl⟩ := Int.eq_ofNat_of_zero_le q0
    have e1 : ∀ k : Nat, ((k : Int) * s.2 = s.1 * m ↔ k = q) := fun k => by
      rw [Int.mul_comm s.1, hq, Int.mul_comm]
      constructor
      · intro z
        have := Int.eq_of_mul_eq_mul_left (by omega) z
        omega
      · intro z; rw [z]
    have e2 : win L m q = (bstN L s).getD 0 0 := by
      unfold win
      rw [bst_scale (by omega) s1 (by rw [hq, Int.mul_comm])]
    have e3 : (List.range (m + 1)).countP (fun (k : Nat) => decide ((k : Int) * s.2 = s.1 * m) && decide (win L m k = i)) = (List.range (m + 1)).countP (fun (k : Nat) => decide (k = q) && decide (win L m q = i)) := by
      apply List.countP_congr
      intro k _
      rw [Bool.and_eq_true, Bool.and_eq_true, decide_eq_true_eq, decide_eq_true_eq, decide_eq_true_eq, decide_eq_true_eq, e1]
      constructor
      · rintro ⟨a, b⟩; subst a; exact ⟨rfl, b⟩
      · rintro ⟨a, b⟩; subst a; exact ⟨rfl, b⟩
    rw [e3, count_lift (by omega), e2]
    by_cases d : (bstN L s).getD 0 0 = i
    · rw [if_pos d, if_pos ⟨decide_eq_true c, d⟩]; rfl
    · rw [if_neg d, if_neg (fun z => d z.2)]; rfl
  · rw [if_neg (fun z => c (of_decide_eq_true z.1))]
    have : (List.range (m + 1)).countP (fun (k : Nat) => decide ((k : Int) * s.2 = s.1 * m) && decide (win L m k = i)) = 0 := by
      rw [List.countP_eq_zero]
      intro k _
      rw [Bool.and_eq_true, decide_eq_true_eq]
      rintro ⟨a, _⟩
      apply c
      rw [Int.mul_comm, ← a]
      exact Int.mul_emod_left _ _
    rw [this]; rfl
theorem btw_at (hm : 0 < m) (hs : FB s) (ht : FB t) (hst : flt s t) (a : bestAt L h s) (b : bestAt L h t) :
    (((List.range (m + 1)).countP (fun (k : Nat) => decide (s.1 * m < (k : Int) * s.2 ∧ (k : Int) * t.2 < t.1 * m) && decide (win L m k = i)) : Nat) : Int) = st1 L m i s t := by
  obtain ⟨s1, _, s3, s4⟩ := hs
  obtain ⟨t1, _, t3, t4⟩ := ht
  unfold st1 amid
  -- the winner
  have hw : ∀ k : Nat, s.1 * m < (k : Int) * s.2 → (k : Int) * t.2 < t.1 * m → ((win L m k : Nat) : Int) = (bstB (bstE L s) (bstE L t)).getD 0 0 := fun k h1 h2 => by
    have := (bst_mid (k := ((k : Int), (m : Int))) s1 (show (0 : Int) < m by omega) t1 h1 h2 a b).2
    unfold win
    rw [show bstE L s = nums (bstN L s) from rfl, show bstE L t = nums (bstN L t) from rfl, nums_filter, this, getD_nums]
  -- the places
  have l0 : 0 ≤ (m : Int) * s.1 / s.2 := Int.ediv_nonneg (Int.mul_nonneg (by omega) s3) (Int.le_of_lt s1)
  have key1 : ∀ k : Int, s.1 * m < k * s.2 ↔ (m : Int) * s.1 / s.2 < k := fun k => by
    rw [Int.mul_comm s.1, ← Int.ediv_lt_iff_lt_mul s1]
  have key2 : ∀ k : Int, k * t.2 < t.1 * m ↔ k ≤ ((m : Int) * t.1 - 1) / t.2 := fun k => by
    rw [Int.le_ediv_iff_mul_le t1, Int.mul_comm t.1]
    omega
  have hle : (m : Int) * s.1 / s.2 ≤ ((m : Int) * t.1 - 1) / t.2 := by
    rw [← key2]
    have h1 := Int.ediv_mul_le ((m : Int) * s.1) (show s.2 ≠ 0 by omega)
    have h2 := Int.mul_le_mul_of_nonneg_right h1 (Int.le_of_lt t1)
    have h3 := Int.mul_lt_mul_of_pos_left hst (show (0 : Int) < m by omega)
    have h4 : (m : Int) * s.1 / s.2 * t.2 * s.2 < t.1 * m * s.2 := by
      rw [mul3 _ t.2 s.2, show t.1 * (m : Int) * s.2 = m * (t.1 * s.2) by rw [Int.mul_comm t.1, Int.mul_assoc]]
      rw [show (m : Int) * s.1 * t.2 = m * (s.1 * t.2) by rw [Int.mul_assoc]] at h2
      omega
    exact Int.lt_of_mul_lt_mul_right h4 (Int.le_of_lt s1)
  have hm2 : ((m : Int) * t.1 - 1) / t.2 ≤ m := by
    have h1 := Int.mul_le_mul_of_nonneg_left t4 (show (0 : Int) ≤ m by omega)
    have h2 : ((m : Int) * t.1 - 1) / t.2 < m + 1 := (Int.ediv_lt_iff_lt_mul t1).mpr (by rw [Int.add_mul]; omega)
    omega
  obtain ⟨lo, elo⟩ := Int.eq_ofNat_of_zero_le l0
  obtain ⟨hi, ehi⟩ := Int.eq_ofNat_of_zero_le (show 0 ≤ ((m : Int) * t.1 - 1) / t.2 by omega)
  have e1 : (List.range (m + 1)).countP (fun (k : Nat) => decide (s.1 * m < (k : Int) * s.2 ∧ (k : Int) * t.2 < t.1 * m) && decide (win L m k = i)) = (List.range (m + 1)).countP (fun (k : Nat) => decide (lo < k ∧ k ≤ hi) && decide ((bstB (bstE L s) (bstE L t)).getD 0 0 = (i : Int))) := by
    apply List.countP_congr
    intro k _
    rw [Bool.and_eq_true, Bool.and_eq_true, decide_eq_true_eq, decide_eq_true_eq, decide_eq_true_eq, decide_eq_true_eq]
    have p : (s.1 * m < (k : Int) * s.2 ∧ (k : Int) * t.2 < t.1 * m) ↔ (lo < k ∧ k ≤ hi) := by
      rw [key1, key2, elo, ehi]; omega
    constructor
    · rintro ⟨x, y⟩
      refine ⟨p.mp x, ?_⟩
      rw [← hw k x.1 x.2, y]
    · rintro ⟨x, y⟩
      have x := p.mpr x
      refine ⟨x, ?_⟩
      rw [← hw k x.1 x.2] at y
      omega
  rw [e1]
  by_cases c : (bstB (bstE L s) (bstE L t)).getD 0 0 = (i : Int)
  · rw [if_pos c]
    have e2 : (List.range (m + 1)).countP (fun (k : Nat) => decide (lo < k ∧ k ≤ hi) && decide ((bstB (bstE L s) (bstE L t)).getD 0 0 = (i : Int))) = (List.range (m + 1)).countP (fun (k : Nat) => decide (lo < k ∧ k ≤ hi)) := by
      apply List.countP_congr
      intro k _
      rw [Bool.and_eq_true, decide_eq_true_eq, decide_eq_true_eq]
      exact ⟨fun z => z.1, fun z => ⟨z, c⟩⟩
    rw [e2, count_btw (by omega) (by omega), elo, ehi]
    omega
  · rw [if_neg c]
    have : (List.range (m + 1)).countP (fun (k : Nat) => decide (lo < k ∧ k ≤ hi) && decide ((bstB (bstE L s) (bstE L t)).getD 0 0 = (i : Int))) = 0 := by
      rw [List.countP_eq_zero]
      intro k _
      rw [Bool.and_eq_true, decide_eq_true_eq, decide_eq_true_eq]
      exact fun z => c z.2
    rw [this]; rfl
theorem cnt_chain (hm : 0 < m) : ∀ (T : List Ln) (s h : Ln), FB s → flt s (1, 1) → (∀ t ∈ T, FB t) → Chain L s h T →
    (((List.range (m + 1)).countP (fun (k : Nat) => decide (s.1 * m ≤ (k : Int) * s.2) && decide (win L m k = i)) : Nat) : Int) = wh1 L m i s + sumE L m i T + sumS L m i s T := by
  have step : ∀ (s t h : Ln), FB s → FB t → flt s t → bestAt L h s → bestAt L h t → (((List.range (m + 1)).countP (fun (k : Nat) => decide (s.1 * m ≤ (k : Int) * s.2) && decide (win L m k = i)) : Nat) : Int) = wh1 L m i s + st1 L m i s t + (((List.range (m + 1)).countP (fun (k : Nat) => decide (t.1 * m ≤ (k : Int) * t.2) && decide (win L m k = i)) : Nat) : Int) := fun s t h hs ht hst a b => by
    rw [← one_at hm hs, ← btw_at hm hs ht hst a b]
    rw [countP_three (p := fun (k : Nat) => decide (s.1 * m ≤ (k : Int) * s.2) && decide (win L m k = i)) (q := fun (k : Nat) => decide ((k : Int) * s.2 = s.1 * m) && decide (win L m k = i)) (r := fun (k : Nat) => decide (s.1 * m < (k : Int) * s.2 ∧ (k : Int) * t.2 < t.1 * m) && decide (win L m k = i)) (u := fun (k : Nat) => decide (t.1 * m ≤ (k : Int) * t.2) && decide (win L m k = i)) (fun k => ?_)]
    · omega
    · have h1 : t.1 * m ≤ (k : Int) * t.2 → s.1 * m < (k : Int) * s.2 := fun z => by
        have a1 := Int.mul_le_mul_of_nonneg_right z (Int.le_of_lt hs.1)
        have a2 := Int.mul_lt_mul_of_pos_right hst (show (0 : Int) < m by omega)
        have a3 : s.1 * m * t.2 < (k : Int) * s.2 * t.2 := by
          rw [mul3 s.1, mul3 (k : Int) s.2]
          rw [mul3 t.1 (m : Int) s.2] at a1
          omega
        exact Int.lt_of_mul_lt_mul_right a3 (Int.le_of_lt ht.1)
      by_cases w : win L m k = i
      · simp only [w, decide_true, Bool.and_true, decide_eq_true_eq]
        by_cases c : t.1 * m ≤ (k : Int) * t.2
        · have := h1 c
          rw [if_pos (by omega), if_neg (by omega), if_neg (by omega), if_pos c]
        · by_cases d : s.1 * m < (k : Int) * s.2
          · rw [if_pos (by omega), if_neg (by omega), if_pos ⟨d, by omega⟩, if_neg c]
          · by_cases e : (k : Int) * s.2 = s.1 * m
            · rw [if_pos (by omega), if_pos e, if_neg (by omega), if_neg c]
            · rw [if_neg (by omega), if_neg e, if_neg (by omega), if_neg c]
      · simp [w]
  intro T
  induction T with
  | nil =>
    intro s h hs h1 _ C
    have one : FB (1, 1) := by unfold FB; decide
    rw [step s (1, 1) h hs one h1 C.1 C.2, sumE, sumS]
    have : (List.range (m + 1)).countP (fun (k : Nat) => decide (((1, 1) : Ln).1 * m ≤ (k : Int) * ((1, 1) : Ln).2) && decide (win L m k = i)) = (List.range (m + 1)).countP (fun (k : Nat) => decide ((k : Int) * ((1, 1) : Ln).2 = ((1, 1) : Ln).1 * m) && decide (win L m k = i)) := by
      apply List.countP_congr
      intro k hk
      have := List.mem_range.mp hk
      rw [Bool.and_eq_true, Bool.and_eq_true, decide_eq_true_eq, decide_eq_true_eq]
      constructor
      · rintro ⟨x, y⟩
        have x : (1 : Int) * m ≤ k * 1 := x
        exact ⟨decide_eq_true (show (k : Int) * 1 = 1 * m by omega), y⟩
      · rintro ⟨x, y⟩
        have x : (k : Int) * 1 = 1 * m := of_decide_eq_true x
        exact ⟨show (1 : Int) * m ≤ k * 1 by omega, y⟩
    rw [this, one_at hm one]
    omega
  | cons t T ih =>
    intro s h hs h1 hT C
    obtain ⟨c1, c2, c3, c4, c5, c6, h', c7, c8, c9⟩ := C
    have ht := hT t List.mem_cons_self
    rw [step s t h hs ht c2 c1 c6, ih t h' ht c3 (fun u hu => hT u (List.mem_cons_of_mem _ hu)) c9, sumE, sumS]
    omega
end
def cntW (L : List Ln) (m i : Nat) : Int := ((List.range (m + 1)).countP (fun (k : Nat) => decide (win L m k = i)) : Nat)
theorem shares_ok {L : List Ln} {m : Nat} (hm : 0 < m) (hL : L ≠ []) (hT : ∀ t ∈ brks L, FB t) (i : Nat) : wh1 L m i (0, 1) + sumE L m i (brks L) + sumS L m i (0, 1) (brks L) = cntW L m i := by
  rw [← cnt_chain hm (brks L) (0, 1) (hdL L) (by unfold FB; decide) (by unfold flt; decide) hT (brks_chain hL)]
  unfold cntW
  congr 1
  apply List.countP_congr
  intro k _
  simp
theorem bst_in {L : List Ln} {t : Ln} : ∀ x ∈ bstE L t, 0 ≤ x ∧ x.toNat < L.length := by
  intro x hx
  unfold bstE nums greatI at hx
  obtain ⟨n, hn, rfl⟩ := List.mem_map.mp hx
  have := List.mem_range.mp (List.mem_filter.mp hn).1
  rw [List.length_map] at this
  omega
theorem bstE_ne {L : List Ln} {t : Ln} (hL : L ≠ []) (ht : 0 < t.2) : bstE L t ≠ [] := by
  have := bst_ne (stee_ok t hL ht).1
  intro z
  exact this (List.map_eq_nil_iff.mp z)
theorem both_ne {L : List Ln} {h s t : Ln} (a : bestAt L h s) (b : bestAt L h t) : bstB (bstE L s) (bstE L t) ≠ [] := by
  obtain ⟨j, hj, e⟩ := List.getElem_of_mem a.1
  have h1 : j ∈ bstN L s := (mem_bst a).mpr ⟨hj, by rw [e]⟩
  have h2 : j ∈ bstN L t := (mem_bst b).mpr ⟨hj, by rw [e]⟩
  have : ((j : Nat) : Int) ∈ bstB (bstE L s) (bstE L t) := List.mem_filter.mpr ⟨List.mem_map.mpr ⟨j, h1, rfl⟩, decide_eq_true (List.mem_map.mpr ⟨j, h2, rfl⟩)⟩
  exact List.ne_nil_of_mem this
def ZsL (L : List Ln) : Ln → List Ln → List (List Int × Ln × Ln)
  | s, [] => [(bstB (bstE L s) (bstE L (1, 1)), s, (1, 1))]
  | s, t :: T => (bstB (bstE L s) (bstE L t), s, t) :: ZsL L t T
theorem Zs_zip (L : List Ln) : ∀ (T : List Ln) (s : Ln), zip3D ((List.zipWith bstB ((s :: T ++ [(1, 1)]).map (bstE L)) (((s :: T ++ [(1, 1)]).map (bstE L)).drop 1)).map pt) ((s :: T ++ [(1, 1)]).map lnD) (((s :: T ++ [(1, 1)]).drop 1).map lnD) = (ZsL L s T).map fun z => .tuple [pt z.1, lnD z.2.1, lnD z.2.2]
  | [], s => rfl
  | t :: T, s => by
    have ih := Zs_zip L T t
    rw [ZsL, List.map_cons, ← ih]
    rfl
theorem Zs_ok {L : List Ln} : ∀ (T : List Ln) (s h : Ln), FB s → (∀ t ∈ T, FB t) → Chain L s h T → ∀ z ∈ ZsL L s T, z.1 ≠ [] ∧ (∀ x ∈ z.1, 0 ≤ x ∧ x.toNat < L.length) ∧ FB z.2.1 ∧ FB z.2.2
  | [], s, h, hs, hT, C, z, hz => by
    rw [List.mem_singleton.mp hz]
    have one : FB (1, 1) := by unfold FB; decide
    exact ⟨both_ne C.1 C.2, fun x hx => bst_in x (List.mem_filter.mp hx).1, hs, one⟩
  | t :: T, s, h, hs, hT, C, z, hz => by
    obtain ⟨c1, c2, c3, c4, c5, c6, h', c7, c8, c9⟩ := C
    have ht := hT t List.mem_cons_self
    rcases List.mem_cons.mp hz with rfl | hz
    · exact ⟨both_ne c1 c6, fun x hx => bst_in x (List.mem_filter.mp hx).1, hs, ht⟩
    · exact Zs_ok T t h' ht (fun u hu => hT u (List.mem_cons_of_mem _ hu)) c9 z hz
def stZ (m i : Nat) (z : List Int × Ln × Ln) : Int := if z.1.getD 0 0 = (i : Int) then amid m z.2.1 z.2.2 else 0
theorem sumS_eq (L : List Ln) (m i : Nat) : ∀ (T : List Ln) (s : Ln), ((ZsL L s T).map (stZ m i)).sum = sumS L m i s T
  | [], s => by simp [ZsL, sumS, stZ, st1]
  | t :: T, s => by
    rw [ZsL, List.map_cons, List.sum_cons, sumS_eq L m i T t, sumS]
    rfl
theorem sumE_eq (L : List Ln) (m i : Nat) : ∀ (T : List Ln), ((T ++ [(1, 1)]).map (wh1 L m i)).sum = sumE L m i T
  | [] => by simp [sumE]
  | t :: T => by rw [List.cons_append, List.map_cons, List.sum_cons, sumE_eq L m i T, sumE]
/-! ### the walk of the winners -/
section
variable {L : List Ln} {m : Nat}
end
def lnX (x : Int × Int) : Ln := (x.2, x.1)
def ptX (x : Int × Int) : List Int := [x.1, x.2]
end DL

/-! Ways: the breaks are the kinks, each once, rising; the way the other way round. -/
namespace DL
open PySem PySem.Spec PyProof.Rows L2
def lowest (t : Ln) : Prop := Nat.gcd t.1.natAbs t.2.natAbs = 1
structure Kink (L : List Ln) (t : Ln) : Prop where
  lo : 0 < t.1
  hi : flt t (1, 1)
  pos : 0 < t.2
  low : lowest t
  two : ∃ h h', bestAt L h t ∧ bestAt L h' t ∧ h ≠ h'
section
variable {L : List Ln} {h s t u : Ln}
end
/-! ### the other way round -/
/-! ### the best ones between -/
/-! ### at whole leans -/
def lnOf (ps : List (List Int)) (a b : List Int) : List Ln := ps.map fun p => (dotS p a, dotS p b)
def wayD (L : List Ln) : PyData := .tuple [.tuple ((brks L).map lnD), pts (bsts L (brks L))]
theorem wrun_lenW (stee : List Ln → Ln → Ln) (L : List Ln) : ∀ n h, (wrun stee L n h).length ≤ n
  | 0, _ => Nat.le_refl _
  | n + 1, h => by
    unfold wrun
    cases brk L h with
    | none => exact Nat.zero_le _
    | some t => exact Nat.succ_le_succ (wrun_lenW stee L n _)
end DL

/-! list(zip(x, y)) of two lists. -/
namespace DL
open PySem PySem.Spec PyProof.Rows PySem.Calls L2
theorem zip_no_len : typeLookup (.type "zip") "__len__" = pure none := by rw [typeLookup_type, builtinLookup_eq_fast]; kernel_rfl
theorem zip_no_hint : typeLookup (.type "zip") "__length_hint__" = pure none := by rw [typeLookup_type, builtinLookup_eq_fast]; kernel_rfl
/-- how far the list is -/
structure ZAt (z TI TO i1 i2 l1 l2 S N : Addr) (xs ys : Array Value) (i : Nat) (Ts : List Addr) (h : Heap) : Prop where
  zt : (IsZip h z TI TO .none ∧ ∃ a b, IsPair h TO a b) ∨ ∃ T f oT, N ≤ T ∧ PySem.IsZipHeld h z TI TO T f ∧ h.get? T = some oT
  ti : IsPair h TI (.ref i1) (.ref i2)
  it1 : h.IsListIter i1 l1 i
  it2 : h.IsListIter i2 l2 i
  li1 : h.IsList l1 xs
  li2 : h.IsList l2 ys
  ob : ∃ acc c, h.get? S = some { cls := .type "list", dict := none, data := .seq acc c, slots := #[] } ∧ acc.toList = Ts.map Value.ref
  len : Ts.length = i
  pr : ∀ (j : Nat) (T : Addr), Ts[j]? = some T → ∃ x y, xs[j]? = some x ∧ ys[j]? = some y ∧ IsPair h T x y
  up : Ts.Pairwise (· < ·)
  lo : ∀ T ∈ Ts, N ≤ T ∧ T < h.objs.size
section
variable {prog : Program} {w : World} {A : Around} {R : Result → Shared → Prop} {z TI TO i1 i2 l1 l2 S N : Addr} {xs ys : Array Value}
theorem ZAt.push {i : Nat} {Ts : List Addr} {h h1 : Heap} {x y : Value} {T : Addr} (Z : ZAt z TI TO i1 i2 l1 l2 S N xs ys i Ts h) (D : ZipApart z TI TO i1 i2 l1 l2)
    (hN : ∀ a ∈ [z, TI, TO, i1, i2, l1, l2, S], a < N) (hS : S ∉ [z, TI, TO, i1, i2, l1, l2]) (hx : xs[i]? = some x) (hy : ys[i]? = some y) (hNh : N ≤ h.objs.size)
    (hzh : PySem.IsZipHeld h1 z TI TO T true ∨ PySem.IsZipHeld h1 z TI TO T false) (hT : ∃ oT, h1.get? T = some oT) (hTN : N ≤ T) (b1 : h1.IsListIter i1 l1 (i + 1)) (b2 : h1.IsListIter i2 l2 (i + 1)) (b3 : IsPair h1 h.objs.size x y) (b4 : h1.objs.size = h.objs.size + 1)
    (k : ∀ c o, c ≠ z → c ≠ TO → c ≠ i1 → c ≠ i2 → h.get? c = some o → h1.get? c = some o) :
    ZAt z TI TO i1 i2 l1 l2 S N xs ys (i + 1) (Ts ++ [h.objs.size]) (h1.update S (Obj.mapSeq (·.push (.ref h.objs.size)))) := by
  simp only [List.mem_cons, List.not_mem_nil, or_false, not_or] at hS
  obtain ⟨s1, s2, s3, s4, s5, s6, s7⟩ := hS
  have n := fun a ha => hN a ha
  have hSN : S < N := n S (by simp)
  have oth : ∀ b o, b ≠ S → h1.get? b = some o → (h1.update S (Obj.mapSeq (·.push (.ref h.objs.size)))).get? b = some o := fun b o hb e => (Heap.get?_update_other _ _ (Ne.symm hb)).trans e
  obtain ⟨acc, c, ho, ha⟩ := Z.ob
  have ho1 := k S _ s1 s3 s4 s5 ho
  refine ⟨.inr ?_, oth _ _ (Ne.symm s2) (k _ _ D.TIz D.TITO D.TIi1 D.TIi2 Z.ti), b1.at fun o e => oth _ _ (Ne.symm s4) e, b2.at fun o e => oth _ _ (Ne.symm s5) e, (Z.li1.at fun o e => k _ _ D.l1z D.l1TO D.l1i1 D.l1i2 e).at fun o e => oth _ _ (Ne.symm s6) e, (Z.li2.at fun o e => k _ _ D.l2z D.l2TO D.l2i1 D.l2i2 e).at fun o e => oth _ _ (Ne.symm s7) e, ?_, by rw [List.length_append, Z.len]; rfl, fun j T' hj => ?_, ?_, fun T' hT' => ?_⟩
  · obtain ⟨oT, hT⟩ := hT
    have hTS : T ≠ S := fun e => by
      rw [e] at hTN
      exact Nat.lt_irrefl _ (Nat.lt_of_lt_of_le hSN hTN)
    rcases hzh with q | q
    · exact ⟨T, true, oT, hTN, oth _ _ (Ne.symm s1) q, oth _ _ hTS hT⟩
    · exact ⟨T, false, oT, hTN, oth _ _ (Ne.symm s1) q, oth _ _ hTS hT⟩
  · refine ⟨acc.push (.ref h.objs.size), _, Heap.get?_update_self _ ho1 rfl, ?_⟩
    rw [Array.toList_push, ha, List.map_append]; rfl
  · by_cases c : j < Ts.length
    · rw [List.getElem?_append_left c] at hj
      obtain ⟨x', y', h1', h2', h3'⟩ := Z.pr j T' hj
      have lo := Z.lo T' (List.mem_of_getElem? hj)
      have ne : ∀ a ∈ [z, TI, TO, i1, i2, l1, l2, S], T' ≠ a := fun a ha e => by
        have h5 : a < N := hN a ha
        have h6 : N ≤ T' := lo.1
        rw [e] at h6
        exact Nat.lt_irrefl _ (Nat.lt_of_lt_of_le h5 h6)
      exact ⟨x', y', h1', h2', oth _ _ (ne S (by simp)) (k _ _ (ne z (by simp)) (ne TO (by simp)) (ne i1 (by simp)) (ne i2 (by simp)) h3')⟩
    · rw [List.getElem?_append_right (by omega)] at hj
      have hj0 : j = Ts.length := by
        cases e : j - Ts.length with
        | zero => omega
        | succ q => rw [e] at hj; simp at hj
      rw [hj0, Nat.sub_self] at hj
      have : h.objs.size = T' := by simpa using hj
      subst this
      rw [hj0, Z.len]
      have hne : h.objs.size ≠ S := fun e => by
        rw [← e] at hSN
        exact Nat.lt_irrefl _ (Nat.lt_of_lt_of_le hSN hNh)
      exact ⟨x, y, hx, hy, oth _ _ hne b3⟩
  · refine List.pairwise_append.mpr ⟨Z.up, List.pairwise_singleton _ _, fun a ha b hb => ?_⟩
    rw [List.mem_singleton.mp hb]
    exact (Z.lo a ha).2
  · rw [Heap.size_update]
    rcases List.mem_append.mp hT' with q | q
    · have := Z.lo T' q
      exact ⟨this.1, by rw [b4]; exact Nat.lt_succ_of_lt this.2⟩
    · rw [List.mem_singleton.mp q, b4]
      exact ⟨hNh, Nat.lt_succ_self _⟩
/-- the list is done -/
structure ZDone (S N : Addr) (xs ys : Array Value) (Ts : List Addr) (h : Heap) : Prop where
  ob : ∃ acc c, h.get? S = some { cls := .type "list", dict := none, data := .seq acc c, slots := #[] } ∧ acc.toList = Ts.map Value.ref
  len : Ts.length = min xs.size ys.size
  pr : ∀ (j : Nat) (T : Addr), Ts[j]? = some T → ∃ x y, xs[j]? = some x ∧ ys[j]? = some y ∧ IsPair h T x y
  up : Ts.Pairwise (· < ·)
  lo : ∀ T ∈ Ts, N ≤ T
theorem zip_loop (hh : A.in1.handled = none) (D : ZipApart z TI TO i1 i2 l1 l2) (hN : ∀ a ∈ [z, TI, TO, i1, i2, l1, l2, S], a < N) (hS : S ∉ [z, TI, TO, i1, i2, l1, l2]) (res : Value) (hn : min xs.size ys.size ≤ sizeLine) :
    ∀ (k i : Nat) (s : Shared) (Ts : List Addr), min xs.size ys.size - i = k → i ≤ min xs.size ys.size → ZAt z TI TO i1 i2 l1 l2 S N xs ys i Ts s.heap → N ≤ s.heap.objs.size →
    (∀ h' Ts', ZDone S N xs ys Ts' h' → (∀ c o, c ∉ [z, TO, i1, i2, S] → s.heap.get? c = some o → h'.get? c = some o) → R (.ok (.ret res)) { s with heap := h' }) →
    codeAny (model prog w) A (.builtin "list.extend.loop" ⟨[.ref S, .ref z, res], []⟩) R s := by
  intro k
  induction k with
  | zero =>
    intro i s Ts hk hi Z hNs hR
    have hin : i = min xs.size ys.size := by omega
    have hS' := hS
    simp only [List.mem_cons, List.not_mem_nil, or_false, not_or] at hS'
    obtain ⟨s1, s2, s3, s4, s5, s6, s7⟩ := hS'
    have hend : xs[i]? = none ∨ ys[i]? = none := by
      by_cases c : xs.size ≤ i
      · exact .inl (Array.getElem?_eq_none c)
      · exact .inr (Array.getElem?_eq_none (by omega))
    have fin : ∀ h' : Heap, (∀ c o, c ≠ z → c ≠ TO → c ≠ i1 → c ≠ i2 → s.heap.get? c = some o → h'.get? c = some o) → R (.ok (.ret res)) { s with heap := h' } := fun h' kp => by
      obtain ⟨acc, c, ho, ha⟩ := Z.ob
      refine hR h' Ts ⟨⟨acc, c, kp S _ s1 s3 s4 s5 ho, ha⟩, by rw [Z.len, hin], fun j T hj => ?_, Z.up, fun T hT => (Z.lo T hT).1⟩ fun c o hc e => ?_
      · obtain ⟨x, y, a, b, p⟩ := Z.pr j T hj
        have lo := Z.lo T (List.mem_of_getElem? hj)
        have ne : ∀ a ∈ [z, TI, TO, i1, i2, l1, l2, S], T ≠ a := fun a ha e => by
          have h5 : a < N := hN a ha
          have h6 : N ≤ T := lo.1
          rw [e] at h6
          exact Nat.lt_irrefl _ (Nat.lt_of_lt_of_le h5 h6)
        exact ⟨x, y, a, b, kp _ _ (ne z (by simp)) (ne TO (by simp)) (ne i1 (by simp)) (ne i2 (by simp)) p⟩
      · simp only [List.mem_cons, List.not_mem_nil, or_false, not_or] at hc
        exact kp c o hc.1 hc.2.1 hc.2.2.1 hc.2.2.2.1 e
    refine codeAny_builtin F.entry_extend_loop ?_
    rw [Around.under_plainId F.plain_extend_loop _]
    show wpAny _ A.in1 (pyNext (.ref z) >>= _) _ _ s
    refine wpAny_bind ?_
    rcases Z.zt with ⟨hz, a, b, hTO⟩ | ⟨T, f, oT, hTN, hz, hT⟩
    · exact wpAny_pyNext_zip_end hh D hz Z.ti hTO Z.it1 Z.it2 Z.li1 Z.li2 hend fun h' kp => wpAny_pure (fin h' kp)
    · exact wpAny_pyNext_zip_end_held hh D hz hT Z.ti Z.it1 Z.it2 Z.li1 Z.li2 hend fun h' kp => wpAny_pure (fin h' fun c o c1 c2 c3 c4 e => kp c o c1 c3 c4 e)
  | succ k ih =>
    intro i s Ts hk hi Z hNs hR
    have hlt : i < min xs.size ys.size := by omega
    have hx : xs[i]? = some xs[i] := Array.getElem?_eq_getElem (by omega)
    have hy : ys[i]? = some ys[i] := Array.getElem?_eq_getElem (by omega)
    obtain ⟨acc, c, ho, ha⟩ := Z.ob
    have hac : acc.size = i := by
      have := congrArg List.length ha
      rw [Array.length_toList, List.length_map, Z.len] at this
      exact this
    have hS' := hS
    simp only [List.mem_cons, List.not_mem_nil, or_false, not_or] at hS'
    obtain ⟨s1, s2, s3, s4, s5, s6, s7⟩ := hS'
    have next : ∀ (h1 : Heap) (T : Addr), PySem.IsZipHeld h1 z TI TO T true ∨ PySem.IsZipHeld h1 z TI TO T false → (∃ oT, h1.get? T = some oT) → N ≤ T → h1.IsListIter i1 l1 (i + 1) → h1.IsListIter i2 l2 (i + 1) → IsPair h1 s.heap.objs.size xs[i] ys[i] → h1.objs.size = s.heap.objs.size + 1 →
        (∀ c o, c ≠ z → c ≠ TO → c ≠ i1 → c ≠ i2 → s.heap.get? c = some o → h1.get? c = some o) →
        wpAny (model prog w) A.in1 (updateSeq S (·.push (.ref s.heap.objs.size)) >>= fun _ => again (.builtin "list.extend.loop" ⟨[.ref S, .ref z, res], []⟩))
          (fun fin s' => match fin with | .done f => R (.ok f) s' | .again c' => c'.quiet = true ∧ codeAny (model prog w) A c' R s') (fun e s' => R (.error e) s') { s with heap := h1 } := fun h1 T q1 q2 q3 q4 q5 q6 q7 kp => by
      have Z2 := Z.push D hN hS hx hy hNs q1 q2 q3 q4 q5 q6 q7 kp
      have ho1 := kp S _ s1 s3 s4 s5 ho
      refine wpAny_bind ?_
      refine wpAny_updateSeq ho1 rfl (wpAny_pure ⟨plainId_quiet F.plain_extend_loop _, ih (i + 1) _ _ (by omega) hlt Z2 (by
        show N ≤ (h1.update S _).objs.size
        rw [Heap.size_update, q7]
        exact Nat.le_succ_of_le hNs) fun h' Ts' Z3 k3 => ?_⟩) (by rw [hac]; omega) (by show (acc.push _).size ≤ sizeLine + 1; rw [Array.size_push, hac]; omega)
      refine hR h' Ts' Z3 fun c o hc e => k3 c o hc ?_
      simp only [List.mem_cons, List.not_mem_nil, or_false, not_or] at hc
      exact (Heap.get?_update_other _ _ (Ne.symm hc.2.2.2.2)).trans (kp c o hc.1 hc.2.1 hc.2.2.1 hc.2.2.2.1 e)
    refine codeAny_builtin F.entry_extend_loop ?_
    rw [Around.under_plainId F.plain_extend_loop _]
    show wpAny _ A.in1 (pyNext (.ref z) >>= _) _ _ s
    refine wpAny_bind ?_
    rcases Z.zt with ⟨hz, a, b, hTO⟩ | ⟨T, f, oT, hTN, hz, hT⟩
    · refine wpAny_pyNext_zip_item D hz Z.ti hTO Z.it1 Z.it2 Z.li1 Z.li2 hx hy fun h' a1 a2 a3 a4 a5 a6 kp => ?_
      exact next h' s.heap.objs.size (.inr a1) ⟨_, a5⟩ hNs a3 a4 a5 a6 kp
    · refine wpAny_pyNext_zip_item_held D hz hT Z.ti Z.it1 Z.it2 Z.li1 Z.li2 hx hy fun h' a1 a3 a4 a5 a6 kp => ?_
      have ne : ∀ a ∈ [z, TI, TO, i1, i2, l1, l2, S], T ≠ a := fun a ha e => by
        have h5 : a < N := hN a ha
        rw [e] at hTN
        exact Nat.lt_irrefl _ (Nat.lt_of_lt_of_le h5 hTN)
      exact next h' T (.inl a1) ⟨oT, kp _ _ (ne z (by simp)) (ne i1 (by simp)) (ne i2 (by simp)) hT⟩ hTN a3 a4 a5 a6 fun c o c1 c2 c3 c4 e => kp c o c1 c3 c4 e
end
section
variable {prog : Program} {w : World} {A : Around} {E : Value → Shared → Prop} {s : Shared}
/-- list(z), z a zip that has not begun, over two lists -/
theorem call_list_zip {z TI TO i1 i2 l1 l2 : Addr} {xs ys : Array Value} {Q : Value → Shared → Prop} (hh : A.handled = none) (D : ZipApart z TI TO i1 i2 l1 l2) (hlt : ∀ a ∈ [z, TI, TO, i1, i2, l1, l2], a < s.heap.objs.size)
    (hz : IsZip s.heap z TI TO .none) (hTI : IsPair s.heap TI (.ref i1) (.ref i2)) (hTO : ∃ a b, IsPair s.heap TO a b) (h1 : s.heap.IsListIter i1 l1 0) (h2 : s.heap.IsListIter i2 l2 0) (hl1 : s.heap.IsList l1 xs) (hl2 : s.heap.IsList l2 ys) (hn : min xs.size ys.size ≤ sizeLine)
    (hQ : ∀ h' Ts, ZDone s.heap.objs.size (s.heap.objs.size + 1) xs ys Ts h' → (∀ c o, c ∉ [z, TO, i1, i2] → s.heap.get? c = some o → h'.get? c = some o) → Q (.ref s.heap.objs.size) { s with heap := h' }) :
    wpAny (model prog w) A (call (.type "list") [.ref z]) Q E s := by
  refine callType_codes (Q₁ := fun obj s₁ => obj = .ref s.heap.objs.size ∧ s₁ = { s with heap := s.heap.push { cls := .type "list", data := .seq #[] } }) F.called_list (F.typeCall_list_1 _) F.entry_list_init
    (code_list_new _ ⟨rfl, rfl⟩) fun obj s₁ h₁ => ?_
  obtain ⟨rfl, rfl⟩ := h₁
  have hS : (s.heap.push { cls := .type "list", data := .seq #[] }).get? s.heap.objs.size = some { cls := .type "list", data := .seq #[] } := Heap.get?_push_size _ rfl
  refine ⟨⟨_, hS, rfl⟩, F.args_list_init_2 _ _, ?_⟩
  have hSn : s.heap.objs.size ∉ [z, TI, TO, i1, i2, l1, l2] := fun hm => Nat.lt_irrefl _ (hlt _ hm)
  have hSn' := hSn
  simp only [List.mem_cons, List.not_mem_nil, or_false, not_or] at hSn'
  obtain ⟨s1, s2, s3, s4, s5, s6, s7⟩ := hSn'
  show wpAny _ A.in1.in1 (do let old ← Builtin.List.listItems (.ref s.heap.objs.size); Builtin.List.listUpdate (.ref s.heap.objs.size) (fun _ => #[]); letGo old.toList.reverse; Builtin.List.listExtendWith (.ref s.heap.objs.size) (.ref z) .none) _ _ _
  refine wpAny_bind ?_
  unfold Builtin.List.listItems
  refine wpAny_bind (wpAny_seqItems hS rfl (wpAny_pure ?_))
  show wpAny _ A.in1.in1 (updateSeq s.heap.objs.size (fun _ => #[]) >>= fun _ => letGo (#[] : Array Value).toList.reverse >>= fun _ => Builtin.List.listExtendWith (.ref s.heap.objs.size) (.ref z) .none) _ _ _
  refine wpAny_bind (wpAny_updateSeq hS rfl ?_)
  have hS2 := Heap.get?_update_self (Obj.mapSeq (fun _ => (#[] : Array Value))) hS rfl
  refine wpAny_bind (wpAny_letGo ?_)
  unfold Builtin.List.listExtendWith
  have k1 : ∀ b o, s.heap.get? b = some o → (s.heap.push { cls := .type "list", data := .seq #[] }).get? b = some o := fun b o e => Heap.get?_push_of_some _ e
  have up : ∀ (h : Heap) (f : Obj → Obj), (∀ b o, s.heap.get? b = some o → h.get? b = some o) → ∀ b o, s.heap.get? b = some o → (h.update s.heap.objs.size f).get? b = some o := fun h f q b o e =>
    (Heap.get?_update_other _ _ (Ne.symm (Nat.ne_of_lt (Heap.lt_size e)))).trans (q b o e)
  have k2 := up _ (Obj.mapSeq (fun _ => (#[] : Array Value))) k1
  have zty : ∀ {h : Heap}, (∀ b o, s.heap.get? b = some o → h.get? b = some o) → Shared.TypeIs { s with heap := h } (.ref z) "zip" := fun {h} q => ⟨_, q _ _ hz, rfl⟩
  refine wpAny_bind (wpAny_typeOf (zty k2) ?_)
  have e1 : Builtin.List.listSameRef (.ref s.heap.objs.size) (.ref z) = false := by simp [Builtin.List.listSameRef, s1]
  have e2 : (Value.type "zip" == Value.type "list") = false := by decide
  have e3 : (Value.type "zip" == Value.type "tuple") = false := by decide
  simp only [e1, e2, e3, Bool.or_false, Bool.false_eq_true, if_false]
  refine wpAny_bind (wpAny_pyIter_zip (k2 _ _ hz) ?_)
  refine wpAny_bind (wpAny_holding ?_)
  unfold Builtin.List.listLengthHint
  refine wpAny_bind (wpAny_specialOf (zty k2) zip_no_len ?_)
  show wpAny _ A.in1.in1 (specialOf (Value.ref z) (Str.ofString "__length_hint__") >>= _) _ _ _
  refine wpAny_bind (wpAny_specialOf (zty k2) zip_no_hint ?_)
  refine wpAny_pure ?_
  show wpAny _ A.in1.in1 (rule "list.extend.makes-room" >>= fun _ => Builtin.List.listTouch (.ref s.heap.objs.size) >>= fun _ =>
    again (.builtin "list.extend.loop" ⟨[.ref s.heap.objs.size, .ref z, .none], []⟩)) _ _ _
  refine wpAny_bind (wpAny_rule ?_)
  refine wpAny_bind ?_
  show wpAny _ A.in1.in1 (updateSeq s.heap.objs.size (·.push .none) >>= fun _ => updateSeq s.heap.objs.size (·.pop)) _ _ _
  refine wpAny_bind (wpAny_updateSeq hS2 rfl ?_)
  have hS3 := Heap.get?_update_self (Obj.mapSeq (·.push Value.none)) hS2 rfl
  refine wpAny_updateSeq (hz := by seq_fits) hS3 rfl ?_
  have hS4 := Heap.get?_update_self (Obj.mapSeq (·.pop)) hS3 rfl
  have k4 := up _ (Obj.mapSeq (·.pop)) (up _ (Obj.mapSeq (·.push Value.none)) k2)
  refine wpAny_pure ⟨plainId_quiet F.plain_extend_loop _, ?_⟩
  have hob : ∃ (acc : Array Value) (c : Nat), ((((s.heap.push { cls := .type "list", data := .seq #[] }).update s.heap.objs.size (Obj.mapSeq (fun _ => (#[] : Array Value)))).update s.heap.objs.size (Obj.mapSeq (·.push Value.none))).update s.heap.objs.size (Obj.mapSeq (·.pop))).get? s.heap.objs.size = some { cls := .type "list", dict := none, data := .seq acc c, slots := #[] } ∧ acc.toList = ([] : List Addr).map Value.ref := ⟨_, _, hS4, rfl⟩
  have hsz : s.heap.objs.size + 1 ≤ ((((s.heap.push { cls := .type "list", data := .seq #[] }).update s.heap.objs.size (Obj.mapSeq (fun _ => (#[] : Array Value)))).update s.heap.objs.size (Obj.mapSeq (·.push Value.none))).update s.heap.objs.size (Obj.mapSeq (·.pop))).objs.size := by
    rw [Heap.size_update, Heap.size_update, Heap.size_update, Heap.size_push]
    exact Nat.le_refl _
  generalize ((((s.heap.push { cls := .type "list", data := .seq #[] }).update s.heap.objs.size (Obj.mapSeq (fun _ => (#[] : Array Value)))).update s.heap.objs.size (Obj.mapSeq (·.push Value.none))).update s.heap.objs.size (Obj.mapSeq (·.pop))) = h4 at hob hsz k4
  have Z0 : ZAt z TI TO i1 i2 l1 l2 s.heap.objs.size (s.heap.objs.size + 1) xs ys 0 [] h4 := ⟨.inl ⟨k4 _ _ hz, by
    obtain ⟨a, b, q⟩ := hTO
    exact ⟨a, b, k4 _ _ q⟩⟩, k4 _ _ hTI, h1.at fun o e => k4 _ _ e, h2.at fun o e => k4 _ _ e, hl1.at fun o e => k4 _ _ e, hl2.at fun o e => k4 _ _ e, hob, rfl, fun j T hj => by simp at hj, List.Pairwise.nil, fun T hT => by cases hT⟩
  refine zip_loop (A := A.in1) (N := s.heap.objs.size + 1) (xs := xs) (ys := ys) (S := s.heap.objs.size) hh D (fun a ha => ?_) hSn .none hn _ 0 { s with heap := h4 } [] rfl (Nat.zero_le _) Z0 hsz fun h' Ts Z kp => ?_
  · rcases List.mem_cons.mp (show a ∈ z :: [TI, TO, i1, i2, l1, l2, s.heap.objs.size] from ha) with q | q
    · exact Nat.lt_succ_of_lt (hlt a (by rw [q]; simp))
    · by_cases c : a = s.heap.objs.size
      · rw [c]; exact Nat.lt_succ_self _
      · refine Nat.lt_succ_of_lt (hlt a ?_)
        simp only [List.mem_cons, List.not_mem_nil, or_false] at q ⊢
        rcases q with q | q | q | q | q | q | q
        · exact .inr (.inl q)
        · exact .inr (.inr (.inl q))
        · exact .inr (.inr (.inr (.inl q)))
        · exact .inr (.inr (.inr (.inr (.inl q))))
        · exact .inr (.inr (.inr (.inr (.inr (.inl q)))))
        · exact .inr (.inr (.inr (.inr (.inr (.inr q)))))
        · exact absurd q c
  · refine ⟨rfl, hQ h' Ts Z fun c o hc e => kp c o (fun hm => ?_) (k4 _ _ e)⟩
    have : c ≠ s.heap.objs.size := Nat.ne_of_lt (Heap.lt_size e)
    simp only [List.mem_cons, List.not_mem_nil, or_false] at hm hc
    rcases hm with q | q | q | q | q
    · exact hc (.inl q)
    · exact hc (.inr (.inl q))
    · exact hc (.inr (.inr (.inl q)))
    · exact hc (.inr (.inr (.inr q)))
    · exact this q
end
end DL

/-! list(zip(x, y)), as the data layer has it. -/
namespace DL
open PySem PySem.Spec PyProof.Rows PySem.Calls L2
def adds (H : Hp) : List (Addr × V × V) → Hp
  | [] => H
  | p :: r => adds (upd H p.1 (.tup [p.2.1, p.2.2])) r
theorem adds_out : ∀ (ps : List (Addr × V × V)) (H : Hp) (a : Addr), a ∉ ps.map Prod.fst → adds H ps a = H a
  | [], _, _, _ => rfl
  | p :: r, H, a, h => by
    rw [List.map_cons, List.mem_cons, not_or] at h
    rw [adds, adds_out r _ a h.2, upd_ne h.1]
theorem adds_in : ∀ (ps : List (Addr × V × V)) (H : Hp), (ps.map Prod.fst).Nodup → ∀ p ∈ ps, adds H ps p.1 = some (.tup [p.2.1, p.2.2])
  | q :: r, H, hn, p, hp => by
    rw [List.map_cons, List.nodup_cons] at hn
    rcases List.mem_cons.mp hp with e | hp
    · rw [e, adds, adds_out r _ _ hn.1, upd_same]
    · rw [adds, adds_in r _ hn.2 p hp]
section
variable {X : Cx} {pins : List (Addr × Obj)} {σ : L2.St} {H H' : Hp} {s : Shared} {h' : Heap}
theorem inv_adds {t' : Nat} (I : Inv X pins σ H s) (k : ∀ b u, s.heap.get? b = some u → h'.get? b = some u) (h1 : ∀ a, a < s.heap.objs.size → H' a = H a) (h2 : ∀ a o, H' a = some o → s.heap.objs.size ≤ a → ObjOk X.prog X.w H' h' a o) :
    Inv X pins σ H' { s with heap := h', toks := t' } := by
  refine I.un ⟨fun b o e _ _ _ => k b o e, fun b o e _ _ _ => ⟨o.slots, k b o e⟩, fun b o e n _ => (h1 b (Heap.lt_size e)).trans n, fun b o e _ => ⟨o, k b o e⟩, fun b xs e => (h1 b (I.hok.lt e)).trans e, fun b o u e => (h1 b (I.hok.lt e)).trans e, fun b ps e => ⟨#[], by rw [(h1 b (I.hok.lt e)).trans e]; simp⟩⟩ fun a o e => ?_
  by_cases c : a < s.heap.objs.size
  · have e2 : H a = some o := (h1 a c).symm.trans e
    exact (I.hok a o e2).stay (fun b u _ q => k b u q) (fun c q => (h1 c (I.hok.lt q)).trans q) fun c xs q => (h1 c (I.hok.lt q)).trans q
  · exact h2 a o e (Nat.not_lt.mp c)
end
def tLZ (K : PySem.W.Frag) (ta : TA) : TE := fun σ H Q => ta σ H fun vs H1 => ∃ a b xs ys, vs = [.ref a, .ref b] ∧ SqL K H1 a xs ∧ SqL K H1 b ys ∧
  ∀ (S : Addr) (ps : List (Addr × V × V)), ps.map Prod.snd = xs.zip ys → (ps.map Prod.fst).Nodup → S ∉ ps.map Prod.fst → H1 S = none → (∀ p ∈ ps, H1 p.1 = none) → Q (.ref S) (upd (adds H1 ps) S (.lst (ps.map fun p => .ref p.1)))
theorem vals_refs : ∀ Ts : List Addr, Vals (Ts.map V.ref) (Ts.map Value.ref)
  | [] => .nil
  | T :: Ts => .cons rfl (vals_refs Ts)
theorem zapart {N a b : Nat} (ha : a < N) (hb : b < N) : ZipApart (N + 4) (N + 2) (N + 3) N (N + 1) a b where
  TIz := show (N + 2 : Nat) ≠ N + 4 by omega
  TOz := show (N + 3 : Nat) ≠ N + 4 by omega
  i1z := show (N : Nat) ≠ N + 4 by omega
  i2z := show (N + 1 : Nat) ≠ N + 4 by omega
  TITO := show (N + 2 : Nat) ≠ N + 3 by omega
  TIi1 := show (N + 2 : Nat) ≠ N by omega
  TIi2 := show (N + 2 : Nat) ≠ N + 1 by omega
  TOi1 := show (N + 3 : Nat) ≠ N by omega
  TOi2 := show (N + 3 : Nat) ≠ N + 1 by omega
  i12 := show (N : Nat) ≠ N + 1 by omega
  l1z := show (a : Nat) ≠ N + 4 by omega
  l1TO := show (a : Nat) ≠ N + 3 by omega
  l1i1 := show (a : Nat) ≠ N by omega
  l1i2 := show (a : Nat) ≠ N + 1 by omega
  l2z := show (b : Nat) ≠ N + 4 by omega
  l2TO := show (b : Nat) ≠ N + 3 by omega
  l2i1 := show (b : Nat) ≠ N by omega
  l2i2 := show (b : Nat) ≠ N + 1 by omega
theorem zin {N a b c : Nat} (ha : a < N) (hb : b < N) (h : c ∈ [N + 4, N + 2, N + 3, N, N + 1, a, b]) : c < N + 5 := by
  simp only [List.mem_cons, List.not_mem_nil, or_false] at h
  omega
theorem zout {N c : Nat} (hc : c < N) : c ∉ [N + 4, N + 3, N, N + 1] := fun h => by
  simp only [List.mem_cons, List.not_mem_nil, or_false] at h
  omega
theorem pe_listZip {X : Cx} {e e2 : Expr} {ta : TA} {p p2 pos pos2 : Pos} (hc : X.calm = true) (hg : Gl X "list") (hm : X.mg "list" = none) (hg2 : Gl X "zip") (hm2 : X.mg "zip" = none) (ha : PA X [e, e2] ta)
    (hs : starEach [e, e2] X.env = (false, eval e X.env) :: starEach [e2] X.env := by rfl) (hpl : (backTo pos2 (starEach [e2] X.env)).any (·.1) = false := by rfl)
    (na : starEach [.Call (.Name "zip" p2) [e, e2] [] pos2] X.env = (false, eval (.Call (.Name "zip" p2) [e, e2] [] pos2) X.env) :: starEach [] X.env := by rfl) :
    PE X (.Call (.Name "list" p) [.Call (.Name "zip" p2) [e, e2] [] pos2] [] pos) (tLZ X.K ta) := by
  refine ⟨fun pins s σ H Q I h => ?_⟩
  refine Call_ (ld_blt I hg hm boot_list (PyProof.Rows.callWith_type1 (args_cons (Call_ (ld_blt I hg2 hm2 PyProof.Rows.boot_zip (PyProof.Rows.callWith_type1 (thn (ha.run pos2 pins s σ H _ I h) fun us s1 ⟨vs, H1, I1, r1, q1⟩ => ?_) hs hpl))) na) na))
  obtain ⟨a, b, xs, ys, ex, hq1, hq2, q⟩ := q1
  subst ex
  cases r1 with
  | cons r rr =>
    cases rr with
    | cons r' rr =>
      cases rr
      cases r
      cases r'
      obtain ⟨its, rv, p1, hz1⟩ := sq_is (k := .l) I1 hq1
      obtain ⟨its2, rv2, p2', _⟩ := sq_is (k := .l) I1 hq2
      have la := p1.lt
      have lb := p2'.lt
      refine zip_begins2 (begins_k .l a its.toArray) (begins_k .l b its2.toArray) p1 p2' fun h' hz hTI hTO g1 g2 hsz hk => args_nil ?_
      have D : ZipApart (s1.heap.objs.size + 4) (s1.heap.objs.size + 2) (s1.heap.objs.size + 3) s1.heap.objs.size (s1.heap.objs.size + 1) a b := by
        exact zapart la lb
      have old : ∀ c o, s1.heap.get? c = some o → c < s1.heap.objs.size := fun c o e => Heap.lt_size e
      refine call_list_zip (s := { s1 with heap := h' }) (xs := its.toArray) (ys := its2.toArray) (I1.ok.hd hc) D (fun c hcm => ?_) hz hTI ⟨_, _, hTO⟩ (isIt_new (k := .l) g1) (isIt_new (k := .l) g2) (p1.at fun o e => hk _ _ e) (p2'.at fun o e => hk _ _ e) ?_ fun h2 Ts Z kp => ?_
      · show c < h'.objs.size
        rw [hsz]
        exact zin la lb hcm
      · rw [List.size_toArray, List.size_toArray, ← rv.length]
        exact Nat.le_trans (Nat.min_le_left _ _) (by assumption)
      · have kp2 : ∀ c o, s1.heap.get? c = some o → h2.get? c = some o := fun c o e => kp c o (zout (old c o e)) (hk _ _ e)
        have hSl : (s1.heap.objs.size : Nat) < h'.objs.size := by
          rw [hsz]
          exact show (s1.heap.objs.size : Nat) < s1.heap.objs.size + 5 by omega
        have hzl : (xs.zip ys).length = Ts.length := by
          rw [Z.len, List.size_toArray, List.size_toArray, List.length_zip, rv.length, rv2.length]
        obtain ⟨ps, eps⟩ : ∃ ps, Ts.zip (xs.zip ys) = ps := ⟨_, rfl⟩
        have hsnd : ps.map Prod.snd = xs.zip ys := by rw [← eps]; exact List.map_snd_zip (by omega)
        have hfst : ps.map Prod.fst = Ts := by rw [← eps]; exact List.map_fst_zip (by omega)
        have hnd : Ts.Nodup := Z.up.imp fun {a b} (hab : a < b) => Nat.ne_of_lt hab
        have hTS : ∀ T ∈ Ts, (h'.objs.size : Nat) < T := fun T hT => Z.lo T hT
        have hSn : h'.objs.size ∉ Ts := fun hm => Nat.lt_irrefl _ (hTS _ hm)
        have frS : H1 h'.objs.size = none := I1.hok.fresh (Nat.le_of_lt hSl)
        have frT : ∀ p ∈ ps, H1 p.1 = none := fun p hp => I1.hok.fresh (Nat.le_of_lt (Nat.lt_trans hSl (hTS _ (by rw [← hfst]; exact List.mem_map.mpr ⟨p, hp, rfl⟩))))
        have hndp : (ps.map Prod.fst).Nodup := by rw [hfst]; exact hnd
        have hSp : h'.objs.size ∉ ps.map Prod.fst := by rw [hfst]; exact hSn
        have hlen : ps.length = Ts.length := by rw [← hfst, List.length_map]
        refine ⟨.ref h'.objs.size, upd (adds H1 ps) h'.objs.size (.lst (ps.map fun p => .ref p.1)), inv_adds (s := s1) (h' := h2) (t' := s1.toks) I1 kp2 (fun c hc => ?_) (fun c o e hc => ?_), rfl, q _ ps hsnd hndp hSp frS frT⟩
        · rw [upd_ne (fun z => by rw [z] at hc; exact Nat.lt_irrefl _ (Nat.lt_trans hc hSl)), adds_out _ _ _ (fun hm => by
            rw [hfst] at hm
            exact Nat.lt_irrefl _ (Nat.lt_trans hc (Nat.lt_trans hSl (hTS _ hm))))]
        · by_cases c1 : c = h'.objs.size
          · subst c1
            rw [upd_same] at e
            cases e
            obtain ⟨acc, n, ho, hacc⟩ := Z.ob
            refine ⟨?_, Ts.map Value.ref, n, ?_, ?_⟩
            · rw [List.length_map, hlen, Z.len, List.size_toArray, List.size_toArray, ← rv.length]
              exact Nat.le_trans (Nat.min_le_left _ _) hz1
            · rw [show (ps.map fun p => V.ref p.1) = (ps.map Prod.fst).map V.ref by rw [List.map_map]; rfl, hfst]
              exact vals_refs Ts
            · rw [ho, ← hacc, Array.toArray_toList]
          · rw [upd_ne c1] at e
            by_cases c2 : c ∈ ps.map Prod.fst
            · obtain ⟨p, hp, rfl⟩ := List.mem_map.mp c2
              rw [adds_in _ _ hndp p hp] at e
              cases e
              obtain ⟨j, hj, ej⟩ := List.getElem_of_mem hp
              have e1 : Ts[j]? = some p.1 := by rw [← hfst, List.getElem?_map, List.getElem?_eq_getElem hj, ej]; rfl
              have e2 : (xs.zip ys)[j]? = some p.2 := by rw [← hsnd, List.getElem?_map, List.getElem?_eq_getElem hj, ej]; rfl
              obtain ⟨ex, ey⟩ := List.getElem?_zip_eq_some.mp e2
              obtain ⟨u, w, hu, hw, hp2⟩ := Z.pr j _ e1
              obtain ⟨u', hu', ru⟩ := rv.get ex
              obtain ⟨w', hw', rw'⟩ := rv2.get ey
              have : u' = u := by
                have h3 : its[j]? = some u := by simpa using hu
                rw [hu'] at h3; exact Option.some.inj h3
              subst this
              have : w' = w := by
                have h3 : its2[j]? = some w := by simpa using hw
                rw [hw'] at h3; exact Option.some.inj h3
              subst this
              exact ⟨small (k := 2) (Nat.le_refl _), [u', w'], .cons ru (.cons rw' .nil), ⟨_, hp2, rfl, _, rfl⟩⟩
            · rw [adds_out _ _ _ c2, I1.hok.fresh hc] at e
              cases e
/-! ### over data -/
section
variable {K : PySem.W.Frag} {B : Ba} {lv : List (Nat × V)} {st tm : List Vl} {σ : L2.St} {tv : List V} {F : Addr → Prop} {O : Addr → Option Ow}
theorem adds_rel : ∀ (ps : List (Addr × V × V)) (ds es : List PyData) (H : Hp), RelX K B lv st tm σ tv H F O → (ps.map Prod.fst).Nodup → (∀ p ∈ ps, H p.1 = none) → RpA K F H (ps.map fun p => p.2.1) ds → RpA K F H (ps.map fun p => p.2.2) es →
    RelX K B lv st tm σ tv (adds H ps) F O ∧ RpA K F (adds H ps) (ps.map fun p => .ref p.1) (zip2D ds es) ∧ ∀ a o, H a = some o → adds H ps a = some o
  | [], _, _, H, R, _, _, .nil, .nil => ⟨R, .nil, fun _ _ e => e⟩
  | p :: r, _, _, H, R, hn, hf, .cons (d := d) (ds := ds) rd rds, .cons (d := e) (ds := es) re res => by
    rw [List.map_cons, List.nodup_cons] at hn
    have hp := hf p List.mem_cons_self
    have kp : ∀ a o, H a = some o → upd H p.1 (.tup [p.2.1, p.2.2]) a = some o := upd_le hp
    have ks : Kp F H (upd H p.1 (.tup [p.2.1, p.2.2])) := fun a o e _ => kp a o e
    obtain ⟨R2, r2, k2⟩ := adds_rel r ds es (upd H p.1 (.tup [p.2.1, p.2.2])) (R.new hp) hn.2 (fun q hq => by
      rw [upd_ne (fun z => hn.1 (by rw [← z]; exact List.mem_map.mpr ⟨q, hq, rfl⟩))]
      exact hf q (List.mem_cons_of_mem _ hq)) (rds.keep (fun _ h => h) ks) (res.keep (fun _ h => h) ks)
    refine ⟨R2, .cons (.tup (SqT.of (k2 _ _ upd_same)) (.cons ?_ (.cons ?_ .nil))) r2, fun a o e => k2 a o (kp a o e)⟩
    · exact Rp.keep (fun _ h => h) (fun a o e _ => k2 a o (kp a o e)) _ _ rd
    · exact Rp.keep (fun _ h => h) (fun a o e _ => k2 a o (kp a o e)) _ _ re
end
def cLstZ (ta : DTA) : DT := fun st Q => ta st fun ds st1 => match ds with
  | [d, d2] => ∃ xs ys, pyO st1 d = some (.list xs) ∧ pyO st1 d2 = some (.list ys) ∧ xs.length = ys.length ∧ Q (.ow (zip2D xs ys)) st1
  | _ => False
section
variable {X : Cx} {B : Ba} {lk : List Nat} {e e2 : Expr} {ta : DTA} {p p2 pos pos2 : Pos}
theorem de_listZip (hc : X.calm = true) (hg : Gl X "list") (hm : X.mg "list" = none) (hg2 : Gl X "zip") (hm2 : X.mg "zip" = none) (ha : DA X B lk [e, e2] ta)
    (hs : starEach [e, e2] X.env = (false, eval e X.env) :: starEach [e2] X.env := by rfl) (hpl : (backTo pos2 (starEach [e2] X.env)).any (·.1) = false := by rfl)
    (na : starEach [.Call (.Name "zip" p2) [e, e2] [] pos2] X.env = (false, eval (.Call (.Name "zip" p2) [e, e2] [] pos2) X.env) :: starEach [] X.env := by rfl) :
    DE X B lk (.Call (.Name "list" p) [.Call (.Name "zip" p2) [e, e2] [] pos2] [] pos) (cLstZ ta) := by
  refine PE.weak (pe_listZip hc hg hm hg2 hm2 ha hs hpl na) fun σ H Q ⟨lv, st, tm, tv, Q0, L, R, h, k⟩ => ?_
  refine ⟨lv, st, tm, tv, _, L, R, h, fun ds st' vs H' q hl R' => ?_⟩
  split at q
  · rename_i d d2
    match vs, hl with
    | [v, v2], _ =>
      have R2 : Rel X.K B lv st' (d2 :: d :: tm) σ (v2 :: v :: tv) H' := R'
      obtain ⟨F, O, R3⟩ := R2
      obtain ⟨xs, ys, e1, e3, hxy, q⟩ := q
      obtain ⟨b, us, rfl, h2, r2⟩ := R3.lst e3
      obtain ⟨a, ws, rfl, h1, r⟩ := R3.pop.lst e1
      refine ⟨a, b, ws, us, rfl, h1, h2, fun S ps hps hn hS fS fT => ?_⟩
      have hwu : ws.length = us.length := by rw [r.length, r2.length, hxy]
      have m1 : (ps.map fun p => p.2.1) = ws := by
        rw [show (ps.map fun p => p.2.1) = (ps.map Prod.snd).map Prod.fst by rw [List.map_map]; rfl, hps]
        exact List.map_fst_zip (by omega)
      have m2 : (ps.map fun p => p.2.2) = us := by
        rw [show (ps.map fun p => p.2.2) = (ps.map Prod.snd).map Prod.snd by rw [List.map_map]; rfl, hps]
        exact List.map_snd_zip (by omega)
      obtain ⟨R4, r4, _⟩ := adds_rel ps xs ys H' R3.pop.pop hn fT (by rw [m1]; exact r) (by rw [m2]; exact r2)
      exact k _ _ _ _ q ⟨F, _, R4.newLst (by rw [adds_out _ _ _ hS]; exact fS) r4⟩
  · exact q.elim
end
def LzK (ds st1 : List Vl) (Q : Vl → List Vl → Prop) : Prop := match ds with
  | [d, d2] => ∃ xs ys, pyO st1 d = some (.list xs) ∧ pyO st1 d2 = some (.list ys) ∧ xs.length = ys.length ∧ Q (.ow (zip2D xs ys)) st1
  | _ => False
section
variable {st : List Vl} {Q : Vl → List Vl → Prop} {v w : Vl} {xs ys : List PyData}
theorem s_lstZ {ta : DTA} (h : ta st fun ds st1 => LzK ds st1 Q) : cLstZ ta st Q := h
theorem s_lstZK (e1 : pyO st v = some (.list xs)) (e2 : pyO st w = some (.list ys)) (h1 : xs.length = ys.length) (h : Q (.ow (zip2D xs ys)) st) : LzK [v, w] st Q := ⟨xs, ys, e1, e2, h1, h⟩
end
end DL

/-! Ways: what is best amid two breaks; neighbours are unlike; bounds of lines; a way is itself. -/
namespace DL
open PySem PySem.Spec PyProof.Rows L2
theorem dotBnd : ∀ (p a : List Int), (∀ x ∈ p, FarI x) → (∀ x ∈ a, 0 ≤ x ∧ x ≤ 1000000000) → -(10 ^ 18 * (a.length : Int)) ≤ dotS p a ∧ dotS p a ≤ 10 ^ 18 * (a.length : Int)
  | [], a, _, _ => by
    have : dotS [] a = 0 := rfl
    rw [this]; omega
  | x :: p, [], _, _ => by
    have : dotS (x :: p) [] = 0 := rfl
    rw [this]; simp
  | x :: p, y :: a, hp, ha => by
    have ih := dotBnd p a (fun z hz => hp z (List.mem_cons_of_mem _ hz)) fun z hz => ha z (List.mem_cons_of_mem _ hz)
    have e : dotS (x :: p) (y :: a) = x * y + dotS p a := by
      unfold dotS
      rw [List.zip_cons_cons, List.map_cons, List.sum_cons]
    obtain ⟨x1, x2⟩ := hp x List.mem_cons_self
    obtain ⟨y1, y2⟩ := ha y List.mem_cons_self
    have m1 := Int.mul_le_mul_of_nonneg_right x2 y1
    have m2 := Int.mul_le_mul_of_nonneg_right x1 y1
    rw [e, List.length_cons]
    have m3 : (10 : Int) ^ 9 * y ≤ 10 ^ 18 := by omega
    have m4 : -(10 ^ 18 : Int) ≤ -(10 ^ 9) * y := by omega
    constructor <;> omega
theorem leansIs {m : Nat} {a : List Int} (h : leansB m a = true) : a.length = m ∧ (∀ x ∈ a, 0 ≤ x ∧ x ≤ 1000000000) ∧ ∃ x ∈ a, 0 < x := by
  unfold leansB at h
  rw [Bool.and_eq_true, Bool.and_eq_true, decide_eq_true_eq, List.all_eq_true, List.any_eq_true] at h
  obtain ⟨h1, h2, x, hx, h3⟩ := h
  exact ⟨h1, fun x hx => of_decide_eq_true (h2 x hx), x, hx, of_decide_eq_true h3⟩
theorem lnBnd {m : Nat} {ps : List (List Int)} {a b : List Int} (hm : m ≤ 4) (hf : ∀ p ∈ ps, ∀ x ∈ p, FarI x) (la : leansB m a = true) (lb : leansB m b = true) : ∀ l ∈ lnOf ps a b, LB l := by
  intro l hl
  obtain ⟨p, hp, rfl⟩ := List.mem_map.mp hl
  obtain ⟨a1, a2, _⟩ := leansIs la
  obtain ⟨b1, b2, _⟩ := leansIs lb
  have x := dotBnd p a (hf p hp) a2
  have y := dotBnd p b (hf p hp) b2
  rw [a1] at x
  rw [b1] at y
  exact ⟨show _ ≤ dotS p a by omega, show dotS p a ≤ _ by omega, show _ ≤ dotS p b by omega, show dotS p b ≤ _ by omega⟩
section
variable {L : List Ln}
end
end DL

/-! Ways judged: what a right way is, by the words; made breaks and stretches. -/
namespace DL
open PySem PySem.Spec PyProof.Rows L2
/-- a pair of numbers, near enough for the law's own divisor -/
def FX (t : Ln) : Prop := t.1.natAbs < 2 ^ 68 ∧ t.2.natAbs < 2 ^ 68
theorem FX.w {t : Ln} (h : FX t) : FW t := by
  have e : (2 : Nat) ^ 68 ≤ 2 ^ 900 := Nat.pow_le_pow_right (by decide) (by decide)
  exact ⟨Nat.lt_of_lt_of_le h.1 e, Nat.lt_of_lt_of_le h.2 e⟩
theorem FB.x {t : Ln} (h : FB t) : FX t := by
  obtain ⟨h1, h2, h3, h4⟩ := h
  exact ⟨by omega, by omega⟩
/-- a fraction above 0 and below 1 in lowest terms -/
def inB (t : Ln) : Bool := decide (0 < t.1) && decide (t.1 < t.2) && decide (Nat.gcd t.1.natAbs t.2.natAbs = 1)
def adjT (T : List Ln) : Bool := (T.zip (T.drop 1)).all fun p => decide (p.1.1 * p.2.2 < p.2.1 * p.1.2)
def adjB (B : List (List Int)) : Bool := (B.zip (B.drop 1)).all fun p => !decide (p.1 = p.2)
def wR (L T : List Ln) (B : List (List Int)) : Bool := T.all inB && adjT T && decide (B.length = T.length + 1) && decide (B = bsts L T) && !(decide ([] ∈ B) && decide (L ≠ [])) && adjB B
theorem low_is {a b : Int} (ha : 0 < a) (hb : 0 < b) : decide (([lowN a b, lowD a b] : List Int) = [a, b]) = decide (Nat.gcd a.natAbs b.natAbs = 1) := by
  rw [decide_eq_decide]
  have hg : 0 < Int.gcd a b := gcd_pos (by omega)
  have h1 : ((Int.gcd a b : Nat) : Int) ∣ b := Int.gcd_dvd_right ..
  have h2 : ((Int.gcd a b : Nat) : Int) ∣ a := Int.gcd_dvd_left ..
  unfold lowN lowD
  rw [if_neg (by omega)]
  show _ ↔ Int.gcd a b = 1
  generalize Int.gcd a b = g at *
  constructor
  · intro e
    have e1 : a / (g : Int) = a := by simpa using congrArg (fun l => l.getD 0 0) e
    obtain ⟨c, hc⟩ := h2
    have e2 : a / (g : Int) = c := by rw [hc]; exact Int.mul_ediv_cancel_left c (by omega)
    have hac : a = c := by rw [← e1, e2]
    rw [← hac] at hc
    by_cases z : g = 1
    · exact z
    · have := Int.mul_le_mul_of_nonneg_right (show (2 : Int) ≤ g by omega) (Int.le_of_lt ha)
      omega
  · intro e
    subst e
    simp; omega
end DL

/-! A tuple, empty ones too, times 2; a way judged stretch by stretch. -/
namespace DL
open PySem PySem.Spec PyProof.Rows L2
section
variable {X : Cx}
end
section
variable {X : Cx} {B : Ba} {K : PySem.W.Frag} {lk : List Nat} {a b : Expr} {ta tb : DT} {pos : Pos}
end
section
variable {st : List Vl} {v w : Vl} {xs : List PyData} {Q : Vl → List Vl → Prop}
end
/-! lists of breaks, as things -/
theorem dep_lnA (T : List Ln) (n : Nat) : (T.map lnD).all (dep (n + 2)) = true := by
  rw [List.all_map]
  exact List.all_eq_true.mpr fun t _ => rfl
theorem dep_lnl (T : List Ln) : dep 60 (.list (T.map lnD)) = true := dep_lnA T 57
theorem eqv_lnl0 (T : List Ln) : PyData.eqv (.list (T.map lnD)) (.list []) = decide (T = []) := by
  cases T with
  | nil => rfl
  | cons t T => rfl
theorem eqv_pts0 (B : List (List Int)) : PyData.eqv (pts B) (.tuple []) = decide (B = []) := eqv_pts B []
/-! stretch by stretch -/
theorem bsts_len (L T : List Ln) : (bsts L T).length = T.length + 1 := by unfold bsts; simp
end DL

/-! Unpacking a list. -/
namespace DL
open PySem PySem.Spec PyProof.Rows L2
section
variable {X : Cx} {B : Ba} {lk : List Nat} {pos : Pos}
end
section
variable {st : List Vl} {QT : List Vl → Prop} {xs : List PyData}
end
end DL

/-! t[::k] of a tuple, k 1 or -1 as reckoned; orders and leans that are none. -/
namespace DL
open PySem PySem.Spec PyProof.Rows L2
section
variable {prog : Program} {w : World} {A : Around} {E : Value → Shared → Prop} {s : Shared}
theorem getItem_tuple_st1 {t sl : Addr} {items : List Value} {vl vu vs : Value} {Q : Value → Shared → Prop} (ht : s.heap.IsTuple t items.toArray) (hs : s.heap.IsSliceOf sl vl vu vs) (pl : IsPart vl none) (pu : IsPart vu none) (ps : IsPart vs (some 1))
    (h : Q (.ref t) s) : wpAny (model prog w) A (getItem (.ref t) (.ref sl)) Q E s := by
  obtain ⟨os, hos, hcs, hds⟩ := id hs
  have hTs : s.TypeIs (.ref sl) "slice" := ⟨os, hos, hcs⟩
  cases pl
  cases pu
  cases ps
  have ht' : IsTup s.heap t items.toArray := ht
  unfold getItem
  try with_reducible refine wpAny_holding ?_
  first | refine wpAny_bind (wpAny_pure ?_) | skip
  refine wpAny_bind (wpAny_sequenceKey ht.typeIs (by decide) ?_)
  refine wpAny_bind (wpAny_callSpecial?_slot (name := Str.ofString "__getitem__") ht.typeIs PyProof.Rows.slot_tuple_getitem
    (wpAny_call_entry PyProof.Rows.slot_tuple_getitem ht.typeIs entry_tuple_getitem ?_ (args_tuple_getitem _ _)))
  show wpAny _ _ (Builtin.Tuple.tupleItemsOf (.ref t) >>= _) _ _ s
  refine wpAny_bind (PyProof.Rows.tupleItemsOf_ ht' ?_)
  refine wpAny_bind (wpAny_typeOf hTs ?_)
  rw [if_pos (by decide)]
  have hap : ∀ {Q : Int × Int × Nat → Shared → Prop} {E : Value → Shared → Prop} {A : Around}, Q (0, 1, items.length) s → wpAny (model prog w) A (Builtin.Slice.sliceApplied (.ref sl) (pure (items.toArray.size : Int))) Q E s := fun hq => by
    unfold Builtin.Slice.sliceApplied Builtin.Slice.sliceFields
    refine wpAny_bind (wpAny_bind (wpAny_field hos hds (x := .none) rfl (wpAny_bind (wpAny_field hos hds (x := .none) rfl (wpAny_bind (wpAny_field hos hds (x := .int 1 _) rfl (wpAny_pure ?_)))))))
    refine wpAny_bind (slicePart_int ?_)
    show wpAny _ _ (if ((1 : Int) == 0) = true then _ else _) _ _ s
    rw [if_neg (by decide)]
    refine wpAny_bind (slicePart_none (wpAny_bind (slicePart_none (wpAny_bind (wpAny_pure ?_)))))
    have e1 : Builtin.Slice.sliceAdjust none none 1 (items.toArray.size : Int) = (0, (items.length : Int)) := by
      unfold Builtin.Slice.sliceAdjust
      simp
    have e2 : Builtin.Slice.slicePlaces 0 (items.length : Int) 1 = items.length := by
      unfold Builtin.Slice.slicePlaces
      simp
      try omega
    show wpAny _ _ (match Builtin.Slice.sliceAdjust none none 1 (items.toArray.size : Int) with | (lo, hi) => pure (lo, (1 : Int), Builtin.Slice.slicePlaces lo hi 1)) _ _ s
    rw [e1]
    show wpAny _ _ (pure ((0 : Int), (1 : Int), Builtin.Slice.slicePlaces 0 (items.length : Int) 1)) _ _ s
    rw [e2]
    exact wpAny_pure hq
  refine wpAny_bind (hap ?_)
  have hyes : ((((0 : Int) == 0) && ((1 : Int) == 1) && (items.length == items.toArray.size)) = true) := by
    rw [List.size_toArray]
    simp
  show wpAny _ _ (if (((0 : Int) == 0) && ((1 : Int) == 1) && (items.length == items.toArray.size)) = true then _ else _) _ _ s
  rw [if_pos hyes]
  refine wpAny_bind ?_
  show wpAny _ _ (typeOf (.ref t) >>= fun T => pure (T == .type "tuple")) _ _ s
  refine wpAny_bind (wpAny_typeOf ht.typeIs (wpAny_pure ?_))
  first
    | rw [if_pos (by decide)]
    | simp only [beq_self_eq_true, if_true]
  first
    | exact wpAny_bind (wpAny_rule (wpAny_pure ⟨_, rfl, wpAny_pure h⟩))
    | exact wpAny_bind (wpAny_rule (wpAny_bind (wpAny_pure (wpAny_pure ⟨_, rfl, wpAny_pure h⟩))))
end
def tRevD (K : PySem.W.Frag) (te ts : TE) : TE := fun σ H Q => te σ H fun x H1 => ts σ H1 fun y H2 => ∃ i, y = .int i ∧ ∃ a xs, x = .ref a ∧ SqT K H2 a xs ∧ ((some i = some (1 : Int) ∧ Q (.ref a) H2) ∨ (some i = some (-1 : Int) ∧ ∀ p, H2 p = none → Q (.ref p) (upd H2 p (.tup xs.reverse))))
section
variable {X : Cx}
theorem pe_revD {e se : Expr} {te ts : TE} {p3 pos : Pos} (he : PE X e te) (hst : PE X se ts) : PE X (.Subscript e (.Slice none none (some se) p3) pos) (tRevD X.K te ts) := by
  refine ⟨fun pins s σ H Q I h => ?_⟩
  refine Subscript_ (thn (he.run pins s σ H _ I h) fun v s1 ⟨x, H1, I1, r1, q1⟩ => ?_)
  refine wpAny_Slice (thn (po_none.run pins s1 σ H1 (fun o H2 => o = none ∧ H2 = H1) I1 ⟨rfl, rfl⟩) fun vl s2 ⟨l, H2, I2, pl, el, e2⟩ => ?_)
  subst el e2
  refine thn (po_none.run pins s2 σ H2 (fun o H3 => o = none ∧ H3 = H2) I2 ⟨rfl, rfl⟩) fun vu s3 ⟨u, H3, I3, pu, eu, e3⟩ => ?_
  subst eu e3
  refine thn ((po_some hst).run pins s3 σ H3 (fun o H4 => ∃ a xs, x = .ref a ∧ SqT X.K H4 a xs ∧ ((o = some 1 ∧ Q (.ref a) H4) ∨ (o = some (-1) ∧ ∀ p, H4 p = none → Q (.ref p) (upd H4 p (.tup xs.reverse))))) I3 ?_) fun vs s4 ⟨o, H4, I4, ps, a, xs, ex, hx, q⟩ => ?_
  · exact q1
  subst ex
  cases r1
  have I5 : Inv X pins σ H4 { s4 with heap := s4.heap.push { cls := .type "slice", data := .fields #[vl, vu, vs] } } := I4.kept (t' := s4.toks) fun b ob q => Heap.get?_push_of_some _ q
  show wpAny (model X.prog X.w) X.A (subscriptTail e (.Slice none none (some se) p3) (.ref a) (.ref s4.heap.objs.size)) (EP X pins σ Q) X.xe { s4 with heap := s4.heap.push { cls := .type "slice", data := .fields #[vl, vu, vs] } }
  obtain ⟨its, r, ht, hz⟩ := I5.tuple hx
  have hlen := r.length
  refine tail_any (ops := [.ref a, .ref s4.heap.objs.size]) ht.typeIs (PyProof.Rows.slot_tuple_getitem.lookup) ?_ (by with_unfolding_all rfl)
  rcases q with ⟨eo, q⟩ | ⟨eo, q⟩
  · subst eo
    exact getItem_tuple_st1 (items := its) ht (Heap.IsSliceOf.new _ vl vu vs) pl pu ps ⟨.ref a, _, I5, rfl, q⟩
  · subst eo
    refine getItem_tuple_rev (items := its) ht (Heap.IsSliceOf.new _ vl vu vs) pl pu ps ?_ (by omega)
    refine ⟨.ref _, _, I5.laid (t' := s4.toks) (o := .tup xs.reverse) (fun b ob q => Heap.get?_push_of_some _ q) (Nat.le_refl _) ?_, rfl, q _ (I5.hok.fresh (Nat.le_refl _))⟩
    exact ⟨by rw [List.length_reverse]; exact hz, _, r.reverse, IsTup.new _ _⟩
end
/-- t[::k] -/
def cRevD (t ts : DT) : DT := fun st Q => t st fun d st1 => ts st1 fun k st2 => ∃ xs, d = .fr (.tuple xs) ∧ ((k = .fr (.int 1) ∧ Q (.fr (.tuple xs)) st2) ∨ (k = .fr (.int (-1)) ∧ Q (.fr (.tuple xs.reverse)) st2))
section
variable {X : Cx} {B : Ba} {lk : List Nat} {e se : Expr} {te ts : DT}
theorem de_revD {p3 pos : Pos} (he : DE X B lk e te) (hs : DE X B lk se ts) : DE X B lk (.Subscript e (.Slice none none (some se) p3) pos) (cRevD te ts) :=
  PE.weak (pe_revD he hs) fun σ H Q ⟨lv, st, tm, tv, Q0, L, R, h, k⟩ => by
    refine ⟨lv, st, tm, tv, _, L, R, h, fun d st1 v H1 q1 R1 => ⟨lv, st1, d :: tm, v :: tv, _, L, R1, q1, fun y st2 u H2 q2 R2 => ?_⟩⟩
    obtain ⟨xs, rfl, q2⟩ := q2
    rcases q2 with ⟨rfl, q⟩ | ⟨rfl, q⟩
    · obtain rfl : u = .int 1 := R2.isInt
      obtain ⟨F, O, R4⟩ := R2.pop
      obtain ⟨a, vs, rfl, h1, r⟩ := R4.tup rfl
      exact ⟨1, rfl, a, vs, rfl, h1, .inl ⟨rfl, k _ _ _ _ q ⟨F, O, R4⟩⟩⟩
    · obtain rfl : u = .int (-1) := R2.isInt
      obtain ⟨F, O, R4⟩ := R2.pop
      obtain ⟨a, vs, rfl, h1, r⟩ := R4.tup rfl
      exact ⟨-1, rfl, a, vs, rfl, h1, .inr ⟨rfl, fun p hp => k _ _ _ _ q ⟨F, _, R4.pop.newTup hp r.reverse⟩⟩⟩
end
section
variable {st : List Vl} {Q : Vl → List Vl → Prop} {te ts : DT} {d k : Vl} {xs : List PyData}
theorem s_revD (h : te st fun d st1 => ts st1 fun k st2 => ∃ xs, d = .fr (.tuple xs) ∧ ((k = .fr (.int 1) ∧ Q (.fr (.tuple xs)) st2) ∨ (k = .fr (.int (-1)) ∧ Q (.fr (.tuple xs.reverse)) st2))) : cRevD te ts st Q := h
end
/-! orders and leans that are none -/
def ordB (m : Nat) (xs : List Int) : Bool := decide ((xs.mergeSort fun a b => decide (a ≤ b)) = (List.range m).map fun (k : Nat) => (k : Int))
theorem ordB_perm {m : Nat} {xs : List Int} (h : ordB m xs = true) : xs.Perm ((List.range m).map fun (k : Nat) => (k : Int)) := by
  have h := of_decide_eq_true h
  exact (h ▸ (List.mergeSort_perm xs _).symm)
theorem no_len {m : Nat} {xs : List Int} (h : xs.length ≠ m) : ordB m xs = false := by
  rw [Bool.eq_false_iff]
  intro z
  have := (ordB_perm z).length_eq
  rw [List.length_map, List.length_range] at this
  exact h this
theorem no_out {m : Nat} {xs : List Int} {x : Int} (hx : x ∈ xs) (h : x < 0 ∨ (m : Int) ≤ x) : ordB m xs = false := by
  rw [Bool.eq_false_iff]
  intro z
  have := (ordB_perm z).mem_iff.mp hx
  obtain ⟨k, hk, rfl⟩ := List.mem_map.mp this
  have := List.mem_range.mp hk
  omega
theorem no_two {m : Nat} {xs : List Int} (h : ¬ xs.Nodup) : ordB m xs = false := by
  rw [Bool.eq_false_iff]
  intro z
  refine h ((ordB_perm z).symm.nodup ?_)
  exact List.Pairwise.map _ (fun a b h e => h (by omega)) List.nodup_range
end DL

namespace U
open PySem PySem.Spec PyProof.Rows L2 DL
def top (i : Nat) : Stmt := PySem.Challenge.pw_unbeaten_k52_no_leans_no_orders.main.body.getD i (.Pass ⟨0, 0, 0, 0⟩)
abbrev s_common_of : Stmt := top 19
abbrev s_lowest : Stmt := top 20
abbrev s_is_leans : Stmt := top 26
abbrev s_need_leans : Stmt := top 27
abbrev s_sum_by : Stmt := top 28
abbrev s_sums_by : Stmt := top 29
abbrev s_greatest_in : Stmt := top 30
abbrev s_best_by : Stmt := top 31
abbrev s_worths_at : Stmt := top 32
abbrev s_is_ahead : Stmt := top 33
abbrev s_break_behind : Stmt := top 34
abbrev s_steepest_at : Stmt := top 35
abbrev s_breaks_of : Stmt := top 36
abbrev s_bests_between : Stmt := top 37
abbrev s_lines_of : Stmt := top 38
abbrev s_way_of : Stmt := top 39
abbrev s_is_inner : Stmt := top 40
abbrev s_way_right : Stmt := top 41
abbrev s_whole_at : Stmt := top 42
abbrev s_many_amid : Stmt := top 43
abbrev s_shares : Stmt := top 44
abbrev s_need_order : Stmt := top 46
abbrev s_turned : Stmt := top 47
abbrev s_in_order : Stmt := top 48
abbrev s_sorted_by : Stmt := top 49
abbrev s_spread_in : Stmt := top 50
abbrev s_weights_by : Stmt := top 51
abbrev s_is_greater_by : Stmt := top 52
abbrev s_go_by : Stmt := top 53
abbrev s__law_new_bag : Stmt := top 55
abbrev s__law_draw : Stmt := top 56
abbrev s__law_wide : Stmt := top 57
abbrev s__law_a_number : Stmt := top 58
abbrev s__law_a_book : Stmt := top 59
abbrev s__law_a_lean : Stmt := top 60
abbrev s__law_some_leans : Stmt := top 61
abbrev s__law_asked : Stmt := top 62
abbrev s__law_refused_as : Stmt := top 63
abbrev s__law_no_leans : Stmt := top 64
abbrev s__law_no_order : Stmt := top 65
abbrev s_law : Stmt := top 66
abbrev LX : List Str := ["NoWeights", "NoMeasures", "NoNumber", "NoOrder", "NoCorners", "NoDeed", "NoKin", "NoLine", "NoLoss", "NoLot", "NoPoint", "NoRow", "NoTable", "NoText", "NoWindow", "TooMany"]
abbrev FL : List Str := []
abbrev TL : List (Str × List Int) := [("BEGIN", [0, 1]), ("END", [1, 1])]
/-! ### the head -/
def D_common_of : He.DefD := ⟨("common_of", none), "common_of", "common_of", defArgs s_common_of, defBody s_common_of, defScope s_common_of, [], []⟩
def D_lowest : He.DefD := ⟨("lowest", none), "lowest", "lowest", defArgs s_lowest, defBody s_lowest, defScope s_lowest, [], []⟩
def D_is_leans : He.DefD := ⟨("is_leans", none), "is_leans", "is_leans", defArgs s_is_leans, defBody s_is_leans, defScope s_is_leans, [], []⟩
def D_need_leans : He.DefD := ⟨("need_leans", none), "need_leans", "need_leans", defArgs s_need_leans, defBody s_need_leans, defScope s_need_leans, [], []⟩
def D_sum_by : He.DefD := ⟨("sum_by", none), "sum_by", "sum_by", defArgs s_sum_by, defBody s_sum_by, defScope s_sum_by, [], []⟩
def D_sums_by : He.DefD := ⟨("sums_by", none), "sums_by", "sums_by", defArgs s_sums_by, defBody s_sums_by, defScope s_sums_by, [], []⟩
def D_greatest_in : He.DefD := ⟨("greatest_in", none), "greatest_in", "greatest_in", defArgs s_greatest_in, defBody s_greatest_in, defScope s_greatest_in, [], []⟩
def D_best_by : He.DefD := ⟨("best_by", none), "best_by", "best_by", defArgs s_best_by, defBody s_best_by, defScope s_best_by, [], []⟩
def D_worths_at : He.DefD := ⟨("worths_at", none), "worths_at", "worths_at", defArgs s_worths_at, defBody s_worths_at, defScope s_worths_at, [], []⟩
def D_is_ahead : He.DefD := ⟨("is_ahead", none), "is_ahead", "is_ahead", defArgs s_is_ahead, defBody s_is_ahead, defScope s_is_ahead, [], []⟩
def D_break_behind : He.DefD := ⟨("break_behind", none), "break_behind", "break_behind", defArgs s_break_behind, defBody s_break_behind, defScope s_break_behind, [], []⟩
def D_steepest_at : He.DefD := ⟨("steepest_at", none), "steepest_at", "steepest_at", defArgs s_steepest_at, defBody s_steepest_at, defScope s_steepest_at, [], []⟩
def D_breaks_of : He.DefD := ⟨("breaks_of", none), "breaks_of", "breaks_of", defArgs s_breaks_of, defBody s_breaks_of, defScope s_breaks_of, [], []⟩
def D_bests_between : He.DefD := ⟨("bests_between", none), "bests_between", "bests_between", defArgs s_bests_between, defBody s_bests_between, defScope s_bests_between, [], []⟩
def D_lines_of : He.DefD := ⟨("lines_of", none), "lines_of", "lines_of", defArgs s_lines_of, defBody s_lines_of, defScope s_lines_of, [], []⟩
def D_way_of : He.DefD := ⟨("way_of", none), "way_of", "way_of", defArgs s_way_of, defBody s_way_of, defScope s_way_of, [], []⟩
def D_is_inner : He.DefD := ⟨("is_inner", none), "is_inner", "is_inner", defArgs s_is_inner, defBody s_is_inner, defScope s_is_inner, [], []⟩
def D_way_right : He.DefD := ⟨("way_right", none), "way_right", "way_right", defArgs s_way_right, defBody s_way_right, defScope s_way_right, [], []⟩
def D_whole_at : He.DefD := ⟨("whole_at", none), "whole_at", "whole_at", defArgs s_whole_at, defBody s_whole_at, defScope s_whole_at, [], []⟩
def D_many_amid : He.DefD := ⟨("many_amid", none), "many_amid", "many_amid", defArgs s_many_amid, defBody s_many_amid, defScope s_many_amid, [], []⟩
def D_shares : He.DefD := ⟨("shares", none), "shares", "shares", defArgs s_shares, defBody s_shares, defScope s_shares, [], []⟩
def D_need_order : He.DefD := ⟨("need_order", none), "need_order", "need_order", defArgs s_need_order, defBody s_need_order, defScope s_need_order, [], []⟩
def D_turned : He.DefD := ⟨("turned", none), "turned", "turned", defArgs s_turned, defBody s_turned, defScope s_turned, [], []⟩
def D_in_order : He.DefD := ⟨("in_order", none), "in_order", "in_order", defArgs s_in_order, defBody s_in_order, defScope s_in_order, [], []⟩
def D_sorted_by : He.DefD := ⟨("sorted_by", none), "sorted_by", "sorted_by", defArgs s_sorted_by, defBody s_sorted_by, defScope s_sorted_by, [], []⟩
def D_spread_in : He.DefD := ⟨("spread_in", none), "spread_in", "spread_in", defArgs s_spread_in, defBody s_spread_in, defScope s_spread_in, [], []⟩
def D_weights_by : He.DefD := ⟨("weights_by", none), "weights_by", "weights_by", defArgs s_weights_by, defBody s_weights_by, defScope s_weights_by, [], []⟩
def D_is_greater_by : He.DefD := ⟨("is_greater_by", none), "is_greater_by", "is_greater_by", defArgs s_is_greater_by, defBody s_is_greater_by, defScope s_is_greater_by, [], []⟩
def D_go_by : He.DefD := ⟨("go_by", none), "go_by", "go_by", defArgs s_go_by, defBody s_go_by, defScope s_go_by, [], []⟩
def D__law_new_bag : He.DefD := ⟨("_law_new_bag", none), "_law_new_bag", "_law_new_bag", defArgs s__law_new_bag, defBody s__law_new_bag, defScope s__law_new_bag, [], []⟩
def D__law_draw : He.DefD := ⟨("_law_draw", none), "_law_draw", "_law_draw", defArgs s__law_draw, defBody s__law_draw, defScope s__law_draw, [], []⟩
def D__law_wide : He.DefD := ⟨("_law_wide", none), "_law_wide", "_law_wide", defArgs s__law_wide, defBody s__law_wide, defScope s__law_wide, [], []⟩
def D__law_a_number : He.DefD := ⟨("_law_a_number", none), "_law_a_number", "_law_a_number", defArgs s__law_a_number, defBody s__law_a_number, defScope s__law_a_number, [], []⟩
def D__law_a_book : He.DefD := ⟨("_law_a_book", none), "_law_a_book", "_law_a_book", defArgs s__law_a_book, defBody s__law_a_book, defScope s__law_a_book, [], []⟩
def D__law_a_lean : He.DefD := ⟨("_law_a_lean", none), "_law_a_lean", "_law_a_lean", defArgs s__law_a_lean, defBody s__law_a_lean, defScope s__law_a_lean, [], []⟩
def D__law_some_leans : He.DefD := ⟨("_law_some_leans", none), "_law_some_leans", "_law_some_leans", defArgs s__law_some_leans, defBody s__law_some_leans, defScope s__law_some_leans, [], []⟩
def D__law_asked : He.DefD := ⟨("_law_asked", none), "_law_asked", "_law_asked", defArgs s__law_asked, defBody s__law_asked, defScope s__law_asked, [], []⟩
def D__law_refused_as : He.DefD := ⟨("_law_refused_as", none), "_law_refused_as", "_law_refused_as", defArgs s__law_refused_as, defBody s__law_refused_as, defScope s__law_refused_as, [], []⟩
def D__law_no_leans : He.DefD := ⟨("_law_no_leans", none), "_law_no_leans", "_law_no_leans", defArgs s__law_no_leans, defBody s__law_no_leans, defScope s__law_no_leans, [], []⟩
def D__law_no_order : He.DefD := ⟨("_law_no_order", none), "_law_no_order", "_law_no_order", defArgs s__law_no_order, defBody s__law_no_order, defScope s__law_no_order, [], []⟩
def D_law : He.DefD := ⟨("law", none), "law", "law", defArgs s_law, defBody s_law, defScope s_law, [], []⟩
def fnL : List He.DefD := [D_common_of, D_lowest, D_is_leans, D_need_leans, D_sum_by, D_sums_by, D_greatest_in, D_best_by, D_worths_at, D_is_ahead, D_break_behind, D_steepest_at, D_breaks_of, D_bests_between, D_lines_of, D_way_of, D_is_inner, D_way_right, D_whole_at, D_many_amid, D_shares, D_need_order, D_turned, D_in_order, D_sorted_by, D_spread_in, D_weights_by, D_is_greater_by, D_go_by, D__law_new_bag, D__law_draw, D__law_wide, D__law_a_number, D__law_a_book, D__law_a_lean, D__law_some_leans, D__law_asked, D__law_refused_as, D__law_no_leans, D__law_no_order, D_law]
def faL : List He.Fa := [.glo "common_of", .glo "lowest", .glo "is_leans", .glo "need_leans", .glo "sum_by", .glo "sums_by", .glo "greatest_in", .glo "best_by", .glo "worths_at", .glo "is_ahead", .glo "break_behind", .glo "steepest_at", .glo "breaks_of", .glo "bests_between", .glo "lines_of", .glo "way_of", .glo "is_inner", .glo "way_right", .glo "whole_at", .glo "many_amid", .glo "shares", .glo "need_order", .glo "turned", .glo "in_order", .glo "sorted_by", .glo "spread_in", .glo "weights_by", .glo "is_greater_by", .glo "go_by", .glo "_law_new_bag", .glo "_law_draw", .glo "_law_wide", .glo "_law_a_number", .glo "_law_a_book", .glo "_law_a_lean", .glo "_law_some_leans", .glo "_law_asked", .glo "_law_refused_as", .glo "_law_no_leans", .glo "_law_no_order", .glo "law", .free "abs", .free "len", .free "all", .free "any", .free "sum", .free "zip", .free "max", .free "tuple", .free "enumerate", .free "range", .free "list", .free "sorted", .free "min", .free "reversed", .free "isinstance", .free "ValueError", .free "int", .int "MOST_LEAN" 1000000000, .int "MOST_SHARES" 1000000000000, .exc "NoWeights", .exc "NoMeasures", .exc "NoNumber", .exc "NoOrder", .glo "PointError"]
abbrev RR : PySem.W.OpenRow := PySem.W.OpenLaw.row PySem.Challenge.rw_unbeaten_k52_no_leans_no_orders
abbrev hkL : PySem.W.Hook := hookB 4 faL fnL (fun K => exB LX K && (fnB FL K && tpB TL K))
def obL (s : PySem.W.SharedT) : He.AlD × Bool := obsBG 4 faL fnL (fun K => exB LX K && (fnB FL K && tpB TL K)) (HandSHeadRun.getT s)
theorem obL_eq (s : PySem.W.SharedT) : obL s = hkL.obs s.abs := obsBG_eq (HandSHeadRun.getT_eq s)
def looseL : List Str := (["common_of", "lowest", "is_leans", "need_leans", "sum_by", "sums_by", "greatest_in", "best_by", "worths_at", "is_ahead", "break_behind", "steepest_at", "breaks_of", "bests_between", "lines_of", "way_of"] : List Str) ++ (["is_inner", "way_right", "whole_at", "many_amid", "shares", "need_order", "turned", "in_order", "sorted_by", "spread_in", "weights_by", "is_greater_by", "go_by", "_law_new_bag", "_law_draw", "_law_wide"] : List Str) ++ (["_law_a_number", "_law_a_book", "_law_a_lean", "_law_some_leans", "_law_asked", "_law_refused_as", "_law_no_leans", "_law_no_order", "MOST_LEAN", "MOST_SHARES", "BEGIN", "END", "PointError", "NoMeasures", "NoPoint", "NoKin"] : List Str) ++ (["TooMany", "NoNumber", "NoCorners", "NoDeed", "NoWindow", "NoWeights", "NoOrder", "NoRow", "NoLot", "NoTable", "NoLoss", "NoLine", "NoText"] : List Str)
theorem runL (w : World) : HandSHeadRun.RunEq RR (PySem.W.view RR.prog [66]) hkL obL 30000 looseL w := by
  intro os
  kernel_rfl
set_option hygiene false
local macro_rules | `(tactic| o_attr) => `(tactic| repeat' (first | ((with_reducible apply s_varF); (· rfl)) | ((with_reducible apply s_ret)) | ((with_reducible apply s_rt); (· rfl)) | ((with_reducible apply s_c2)) | ((with_reducible apply s_cons)) | ((with_reducible apply s_nil)) | ((with_reducible apply s_K)) | ((with_reducible apply s_seq)) | ((with_reducible apply s_frz)) | ((with_reducible apply s_up); (· (first | (simp only [upds]; done) | (simp only [upds]; rfl)))) | ((with_reducible apply s_call)) | ((with_reducible apply s_clk); (· rfl)) | ((with_reducible apply s_frzF)) | ((with_reducible apply s_tst)) | ((with_reducible apply s_tstK)) | ((with_reducible apply s_asg)) | ((with_reducible apply s_ifS)) | ((with_reducible apply s_fn)) | ((with_reducible apply s_g1)) | ((with_reducible apply s_gT)) | ((with_reducible apply s_next)) | ((with_reducible apply s_src); (· rfl)) | ((with_reducible apply s_lc)) | ((with_reducible apply s_turn)) | ((with_reducible apply s_et)) | ((with_reducible apply s_frz2); (· rfl)) | ((with_reducible apply s_ixT); (· rfl); (· (first | with_reducible exact atI_0 _ _ | with_reducible exact atI_1 _ _ _ | with_reducible exact atI_2 _ _ _ _ | with_reducible exact atI_3 _ _ _ _ _ | with_reducible exact atI_4 _ _ _ _ _ _ | (apply atI_ok; assumption) | assumption))) | ((with_reducible apply s_addI)) | ((with_reducible apply s_yes)) | ((with_reducible apply s_mul); (· (first | exact mulL (by omega) (by omega) | exact mulR (by omega) (by omega) | exact mulB (by omega) (by omega)))) | ((with_reducible apply s_lst)) | ((with_reducible apply s_varO); (· rfl)) | ((with_reducible apply s_lstK); (· (first | (simp only [DL.frs, Option.map_some]; done) | (simp only [DL.frs, Option.map_some]; rfl) | rfl)); (· (simp only [List.length_cons, List.length_nil]; omega))) | ((with_reducible apply s_seqI)) | ((with_reducible apply s_frzO)) | ((with_reducible apply s_tup)) | ((with_reducible apply s_gsn)) | ((with_reducible apply s_gsc)) | ((with_reducible apply s_tu); (· rfl)) | ((with_reducible apply s_tupK); (· (first | (simp only [DL.frs, Option.map_some]; done) | (simp only [DL.frs, Option.map_some]; rfl) | rfl)); (· (simp only [List.length_cons, List.length_nil]; omega))) | ((with_reducible apply s_eq); (· rfl); (· rfl); (· (first | exact dep_int _ _ | exact dep_str _ _ | exact dep_bool _ _ | exact dep_none _ | exact dep_pt60 _ | exact dep_pl60 _ | exact dep_pts60 _ | exact dep_lpts60 _ | exact dep_mapI _ _ | exact dep_mapIT _ _ | exact dep_pto _ | rfl)); (· (first | exact dep_int _ _ | exact dep_str _ _ | exact dep_bool _ _ | exact dep_none _ | exact dep_pt60 _ | exact dep_pl60 _ | exact dep_pts60 _ | exact dep_lpts60 _ | exact dep_mapI _ _ | exact dep_mapIT _ _ | exact dep_pto _ | rfl))) | ((with_reducible apply s_sqT)) | ((with_reducible apply s_tpl1); (· rfl)) | ((with_reducible apply s_callX)) | ((with_reducible apply s_clx); (· rfl)) | ((with_reducible apply s_pow); (· omega); (· omega); (· omega); (· (first | (simp only [Int.reduceToNat, Int.reducePow]; done) | (simp only [Int.reduceToNat, Int.reducePow]; rfl) | rfl))) | ((with_reducible apply s_drop)) | ((with_reducible apply s_ne); (· rfl); (· rfl); (· (first | exact dep_int _ _ | exact dep_str _ _ | exact dep_bool _ _ | exact dep_none _ | exact dep_pt60 _ | exact dep_pl60 _ | exact dep_pts60 _ | exact dep_lpts60 _ | exact dep_mapI _ _ | exact dep_mapIT _ _ | exact dep_pto _ | rfl)); (· (first | exact dep_int _ _ | exact dep_str _ _ | exact dep_bool _ _ | exact dep_none _ | exact dep_pt60 _ | exact dep_pl60 _ | exact dep_pts60 _ | exact dep_lpts60 _ | exact dep_mapI _ _ | exact dep_mapIT _ _ | exact dep_pto _ | rfl))) | ((with_reducible apply s_noP)) | ((with_reducible apply s_pt)) | ((with_reducible apply s_ptK)) | ((with_reducible apply s_sl)) | ((with_reducible apply s_mod); (· omega)) | ((with_reducible apply s_not)) | ((with_reducible apply s_for)) | ((with_reducible apply s_lenT); (· rfl)) | ((with_reducible apply s_or)) | ((with_reducible apply s_zip)) | ((with_reducible apply s_ixL); (· rfl); (· (first | with_reducible exact atI_0 _ _ | with_reducible exact atI_1 _ _ _ | with_reducible exact atI_2 _ _ _ _ | with_reducible exact atI_3 _ _ _ _ _ | with_reducible exact atI_4 _ _ _ _ _ _ | (apply atI_ok; assumption) | assumption))) | ((with_reducible apply s_zipK); (· rfl); (· rfl); (· rfl); (· rfl)) | ((with_reducible apply s_c1)) | ((with_reducible apply s_neg)) | ((with_reducible apply s_sub)) | ((with_reducible apply s_rng1)) | ((with_reducible apply s_slT); (· rfl)) | ((with_reducible apply s_subK); (· rfl); (· (first | exact ixN_30 | exact ixN_31 | exact ixN_32 | exact ixN_51 | exact ixN_52 | exact ixN_53 | rfl)); (· (first | (simp only [List.set_cons_succ, List.set_cons_zero]; done) | (simp only [List.set_cons_succ, List.set_cons_zero]; rfl) | rfl)); (· (first | (simp only [List.set_cons_succ, List.set_cons_zero]; done) | (simp only [List.set_cons_succ, List.set_cons_zero]; rfl) | rfl))) | ((with_reducible apply s_addT); (· rfl); (· rfl); (· (refine small (k := 100000) ?_; (try simp only [List.length_append, List.length_cons, List.length_nil, List.length_map, List.length_take, List.length_drop, List.length_reverse, List.length_replicate, List.length_range]); omega))) | ((with_reducible apply s_fdiv); (· omega); (· omega)) | ((with_reducible apply s_and)) | ((with_reducible apply s_ch)) | ((with_reducible apply s_chK)) | ((with_reducible apply s_ciK)) | ((with_reducible apply s_mth)) | ((with_reducible apply s_sqL)) | ((with_reducible apply s_enum)) | ((with_reducible apply s_lenL); (· rfl)) | ((with_reducible apply s_slL); (· rfl)) | ((with_reducible apply s_mthK); (· rfl)) | ((with_reducible apply s_enumK); (· rfl); (· rfl)) | ((with_reducible apply s_mth2); (· rfl); (· (first | (simp only [DL.frs, Option.map_some]; done) | (simp only [DL.frs, Option.map_some]; rfl) | rfl))) | ((with_reducible apply s_st); (· (first | (simp only [List.set_cons_succ, List.set_cons_zero]; done) | (simp only [List.set_cons_succ, List.set_cons_zero]; rfl) | rfl))) | ((with_reducible apply s_raise)) | ((with_reducible apply s_app); (· (refine Nat.lt_of_lt_of_le (m := 100000) ?_ (by rw [sizeLine_eq]; decide); (try simp only [List.length_append, List.length_cons, List.length_nil, List.length_map, List.length_take, List.length_drop, List.length_reverse, List.length_replicate, List.length_range]); omega))) | ((with_reducible apply s_if)) | ((with_reducible apply s_par)) | ((with_reducible apply s_maxDf)) | ((with_reducible apply s_rgA)) | ((with_reducible apply s_raK)) | ((with_reducible apply s_rgk); (· exact RgOk.of_le (by omega) (by omega) (by omega) (by omega))) | ((with_reducible apply s_isN); (· rfl)) | ((with_reducible apply s_notN); (· rfl)) | ((with_reducible apply s_parK); (· rfl); (· rfl); (· rfl); (· rfl); (· (first | (simp only [List.set_cons_succ, List.set_cons_zero]; done) | (simp only [List.set_cons_succ, List.set_cons_zero]; rfl) | rfl))) | ((with_reducible apply s_rs); (· (first | (simp only [rst, List.set_cons_zero, List.set_cons_succ, Option.getD_some, List.getElem?_cons_zero, List.getElem?_cons_succ]; done) | (simp only [rst, List.set_cons_zero, List.set_cons_succ, Option.getD_some, List.getElem?_cons_zero, List.getElem?_cons_succ]; rfl)))) | ((with_reducible apply s_andV)) | ((with_reducible apply s_andVK)) | ((with_reducible apply s_orV)) | ((with_reducible apply s_orVK)) | ((with_reducible apply s_g2)) | ((with_reducible apply s_abs)) | ((with_reducible apply s_sqO)) | ((with_reducible apply s_zip3)) | ((with_reducible apply s_maxPD)) | ((with_reducible apply s_augS)) | ((with_reducible apply s_lstZ)) | ((with_reducible apply s_revD)) | ((with_reducible apply s_zip3K); (· rfl); (· rfl); (· rfl); (· rfl); (· rfl); (· rfl)) | ((with_reducible apply s_intB)) | ((with_reducible apply s_lsR)) | ((with_reducible apply s_tuR)) | ((with_reducible apply s_minDf)) | ((with_reducible apply s_revI)) | ((with_reducible apply s_rvk)) | ((with_reducible apply s_varS); (· rfl)) | ((with_reducible apply s_lst2); (· rfl)) | ((with_reducible apply s_addL); (· rfl); (· rfl); (· (refine small (k := 100000) ?_; (try simp only [List.length_append, List.length_cons, List.length_nil, List.length_map, List.length_take, List.length_drop, List.length_reverse, List.length_replicate, List.length_range]); omega))) | ((with_reducible apply s_varX); (· rfl)) | ((with_reducible apply s_isNX)) | ((with_reducible apply s_try)) | ((with_reducible apply s_isX)) | ((with_reducible apply s_cntB)) | ((with_reducible apply s_idxB)) | ((with_reducible apply s_trk); (· (first | assumption | (simp only [List.mem_cons, true_or, or_true]; done) | decide +kernel)); (· (first | (simp only [List.length_cons, List.length_nil]; omega) | decide)); (· (first | (simp only [List.set_cons_succ, List.set_cons_zero]; done) | (simp only [List.set_cons_succ, List.set_cons_zero]; rfl) | rfl))) | ((with_reducible apply s_isXT); (· (first | assumption | decide +kernel)); (· (first | assumption | decide +kernel))) | ((with_reducible apply s_isXF); (· (first | assumption | decide +kernel)); (· (first | assumption | decide +kernel))) | (with_reducible refine s_brT ?_) | (with_reducible refine s_brF ?_) | (with_reducible refine s_brD (fun h => ?_) (fun h => ?_)) | (with_reducible refine s_brN ?_) | (with_reducible refine s_brEq (eqv_nil _) ?_) | (with_reducible refine s_brE (fun h => ?_) (fun h => ?_)) | (with_reducible refine s_brEq (kd_isTuple_tuple _) ?_) | (with_reducible refine s_brEq (kd_isTuple_list _) ?_) | (with_reducible refine s_brEq (kd_isTuple_int _) ?_) | (with_reducible refine s_brEq (kd_isInt_int _) ?_) | (with_reducible refine s_brEq (kd_isInt_bool _) ?_) | (with_reducible refine s_brEq (kd_isInt_tuple _) ?_) | (with_reducible refine s_brEq (kd_isInt_list _) ?_) | (with_reducible refine s_brEq (kd_isInt_str _) ?_) | (with_reducible refine s_brEq (kd_isBool_int _) ?_) | (with_reducible refine s_brEq (kd_isBool_bool _) ?_) | (with_reducible refine s_brEq (kd_isBool_tuple _) ?_) | (with_reducible refine s_brEq (kd_isStr_str _) ?_) | (with_reducible refine s_brEq (kd_isStr_int _) ?_) | (with_reducible refine s_brEq (kd_isList_list _) ?_) | (with_reducible refine s_brEq (kd_isList_tuple _) ?_) | (with_reducible refine s_brEq (kd_non_int _) ?_) | (with_reducible refine s_brEq (kd_non_bool _) ?_) | (with_reducible refine s_brEq (kd_non_str _) ?_) | (with_reducible refine s_brEq (kd_non_tuple _) ?_) | (with_reducible refine s_brEq (kd_non_list _) ?_) | (with_reducible refine s_brEq (kd_isInt_none) ?_) | (with_reducible refine s_brEq (kd_isTuple_none) ?_) | (with_reducible refine s_brEq (kd_non_none) ?_) | (with_reducible refine s_brEq (eqv_int _ _) ?_) | (with_reducible refine s_brEq (eqv_bool _ _) ?_) | (with_reducible refine s_brEq (eqv_str _ _) ?_) | (with_reducible refine s_brEq (eqv_pt _ _) ?_) | (with_reducible refine s_brEq (eqv_pl _ _) ?_) | (with_reducible refine s_brEq (eqv_pto _ _) ?_) | (with_reducible refine s_brEq (beq_tt _) ?_)))
local macro_rules | `(tactic| o_norm) => `(tactic| repeat' (first | ((with_reducible apply s_varF); (· rfl)) | ((with_reducible apply s_ret)) | ((with_reducible apply s_rt); (· rfl)) | ((with_reducible apply s_c2)) | ((with_reducible apply s_cons)) | ((with_reducible apply s_nil)) | ((with_reducible apply s_K)) | ((with_reducible apply s_seq)) | ((with_reducible apply s_frz)) | ((with_reducible apply s_up); (· (first | (simp only [upds]; done) | (simp only [upds]; rfl)))) | ((with_reducible apply s_call)) | ((with_reducible apply s_clk); (· rfl)) | ((with_reducible apply s_nm); (· rfl); (· rfl); (· (first | (simp only [List.set_cons_succ, List.set_cons_zero]; done) | (simp only [List.set_cons_succ, List.set_cons_zero]; rfl) | rfl))) | ((with_reducible apply s_frzF)) | ((with_reducible apply s_tst)) | ((with_reducible apply s_tstK)) | ((with_reducible apply s_asg)) | ((with_reducible apply s_ifS)) | ((with_reducible apply s_fn)) | ((with_reducible apply s_g1)) | ((with_reducible apply s_gT)) | ((with_reducible apply s_next)) | ((with_reducible apply s_src); (· rfl)) | ((with_reducible apply s_lc)) | ((with_reducible apply s_turn)) | ((with_reducible apply s_et)) | ((with_reducible apply s_frz2); (· rfl)) | ((with_reducible apply s_ixT); (· rfl); (· (first | with_reducible exact atI_0 _ _ | with_reducible exact atI_1 _ _ _ | with_reducible exact atI_2 _ _ _ _ | with_reducible exact atI_3 _ _ _ _ _ | with_reducible exact atI_4 _ _ _ _ _ _ | (apply atI_ok; assumption) | assumption))) | ((with_reducible apply s_addI)) | ((with_reducible apply s_yes)) | ((with_reducible apply s_mul); (· (first | exact mulL (by omega) (by omega) | exact mulR (by omega) (by omega) | exact mulB (by omega) (by omega)))) | ((with_reducible apply s_lst)) | ((with_reducible apply s_varO); (· rfl)) | ((with_reducible apply s_lstK); (· (first | (simp only [DL.frs, Option.map_some]; done) | (simp only [DL.frs, Option.map_some]; rfl) | rfl)); (· (simp only [List.length_cons, List.length_nil]; omega))) | ((with_reducible apply s_seqI)) | ((with_reducible apply s_frzO)) | ((with_reducible apply s_tup)) | ((with_reducible apply s_gsn)) | ((with_reducible apply s_gsc)) | ((with_reducible apply s_tu); (· rfl)) | ((with_reducible apply s_tupK); (· (first | (simp only [DL.frs, Option.map_some]; done) | (simp only [DL.frs, Option.map_some]; rfl) | rfl)); (· (simp only [List.length_cons, List.length_nil]; omega))) | ((with_reducible apply s_eq); (· rfl); (· rfl); (· (first | exact dep_int _ _ | exact dep_str _ _ | exact dep_bool _ _ | exact dep_none _ | exact dep_pt60 _ | exact dep_pl60 _ | exact dep_pts60 _ | exact dep_lpts60 _ | exact dep_mapI _ _ | exact dep_mapIT _ _ | exact dep_pto _ | rfl)); (· (first | exact dep_int _ _ | exact dep_str _ _ | exact dep_bool _ _ | exact dep_none _ | exact dep_pt60 _ | exact dep_pl60 _ | exact dep_pts60 _ | exact dep_lpts60 _ | exact dep_mapI _ _ | exact dep_mapIT _ _ | exact dep_pto _ | rfl))) | ((with_reducible apply s_sqT)) | ((with_reducible apply s_tpl1); (· rfl)) | ((with_reducible apply s_callX)) | ((with_reducible apply s_clx); (· rfl)) | ((with_reducible apply s_pow); (· omega); (· omega); (· omega); (· (first | (simp only [Int.reduceToNat, Int.reducePow]; done) | (simp only [Int.reduceToNat, Int.reducePow]; rfl) | rfl))) | ((with_reducible apply s_drop)) | ((with_reducible apply s_ne); (· rfl); (· rfl); (· (first | exact dep_int _ _ | exact dep_str _ _ | exact dep_bool _ _ | exact dep_none _ | exact dep_pt60 _ | exact dep_pl60 _ | exact dep_pts60 _ | exact dep_lpts60 _ | exact dep_mapI _ _ | exact dep_mapIT _ _ | exact dep_pto _ | rfl)); (· (first | exact dep_int _ _ | exact dep_str _ _ | exact dep_bool _ _ | exact dep_none _ | exact dep_pt60 _ | exact dep_pl60 _ | exact dep_pts60 _ | exact dep_lpts60 _ | exact dep_mapI _ _ | exact dep_mapIT _ _ | exact dep_pto _ | rfl))) | ((with_reducible apply s_noP)) | ((with_reducible apply s_pt)) | ((with_reducible apply s_ptK)) | ((with_reducible apply s_sl)) | ((with_reducible apply s_mod); (· omega)) | ((with_reducible apply s_not)) | ((with_reducible apply s_for)) | ((with_reducible apply s_lenT); (· rfl)) | ((with_reducible apply s_or)) | ((with_reducible apply s_zip)) | ((with_reducible apply s_ixL); (· rfl); (· (first | with_reducible exact atI_0 _ _ | with_reducible exact atI_1 _ _ _ | with_reducible exact atI_2 _ _ _ _ | with_reducible exact atI_3 _ _ _ _ _ | with_reducible exact atI_4 _ _ _ _ _ _ | (apply atI_ok; assumption) | assumption))) | ((with_reducible apply s_zipK); (· rfl); (· rfl); (· rfl); (· rfl)) | ((with_reducible apply s_c1)) | ((with_reducible apply s_neg)) | ((with_reducible apply s_sub)) | ((with_reducible apply s_rng1)) | ((with_reducible apply s_slT); (· rfl)) | ((with_reducible apply s_subK); (· rfl); (· (first | exact ixN_30 | exact ixN_31 | exact ixN_32 | exact ixN_51 | exact ixN_52 | exact ixN_53 | rfl)); (· (first | (simp only [List.set_cons_succ, List.set_cons_zero]; done) | (simp only [List.set_cons_succ, List.set_cons_zero]; rfl) | rfl)); (· (first | (simp only [List.set_cons_succ, List.set_cons_zero]; done) | (simp only [List.set_cons_succ, List.set_cons_zero]; rfl) | rfl))) | ((with_reducible apply s_addT); (· rfl); (· rfl); (· (refine small (k := 100000) ?_; (try simp only [List.length_append, List.length_cons, List.length_nil, List.length_map, List.length_take, List.length_drop, List.length_reverse, List.length_replicate, List.length_range]); omega))) | ((with_reducible apply s_fdiv); (· omega); (· omega)) | ((with_reducible apply s_and)) | ((with_reducible apply s_ch)) | ((with_reducible apply s_chK)) | ((with_reducible apply s_ciK)) | ((with_reducible apply s_mth)) | ((with_reducible apply s_sqL)) | ((with_reducible apply s_enum)) | ((with_reducible apply s_lenL); (· rfl)) | ((with_reducible apply s_slL); (· rfl)) | ((with_reducible apply s_mthK); (· rfl)) | ((with_reducible apply s_enumK); (· rfl); (· rfl)) | ((with_reducible apply s_mth2); (· rfl); (· (first | (simp only [DL.frs, Option.map_some]; done) | (simp only [DL.frs, Option.map_some]; rfl) | rfl))) | ((with_reducible apply s_st); (· (first | (simp only [List.set_cons_succ, List.set_cons_zero]; done) | (simp only [List.set_cons_succ, List.set_cons_zero]; rfl) | rfl))) | ((with_reducible apply s_raise)) | ((with_reducible apply s_app); (· (refine Nat.lt_of_lt_of_le (m := 100000) ?_ (by rw [sizeLine_eq]; decide); (try simp only [List.length_append, List.length_cons, List.length_nil, List.length_map, List.length_take, List.length_drop, List.length_reverse, List.length_replicate, List.length_range]); omega))) | ((with_reducible apply s_if)) | ((with_reducible apply s_par)) | ((with_reducible apply s_maxDf)) | ((with_reducible apply s_rgA)) | ((with_reducible apply s_raK)) | ((with_reducible apply s_rgk); (· exact RgOk.of_le (by omega) (by omega) (by omega) (by omega))) | ((with_reducible apply s_isN); (· rfl)) | ((with_reducible apply s_notN); (· rfl)) | ((with_reducible apply s_parK); (· rfl); (· rfl); (· rfl); (· rfl); (· (first | (simp only [List.set_cons_succ, List.set_cons_zero]; done) | (simp only [List.set_cons_succ, List.set_cons_zero]; rfl) | rfl))) | ((with_reducible apply s_rs); (· (first | (simp only [rst, List.set_cons_zero, List.set_cons_succ, Option.getD_some, List.getElem?_cons_zero, List.getElem?_cons_succ]; done) | (simp only [rst, List.set_cons_zero, List.set_cons_succ, Option.getD_some, List.getElem?_cons_zero, List.getElem?_cons_succ]; rfl)))) | ((with_reducible apply s_andV)) | ((with_reducible apply s_andVK)) | ((with_reducible apply s_orV)) | ((with_reducible apply s_orVK)) | ((with_reducible apply s_g2)) | ((with_reducible apply s_abs)) | ((with_reducible apply s_sqO)) | ((with_reducible apply s_zip3)) | ((with_reducible apply s_maxPD)) | ((with_reducible apply s_augS)) | ((with_reducible apply s_lstZ)) | ((with_reducible apply s_revD)) | ((with_reducible apply s_zip3K); (· rfl); (· rfl); (· rfl); (· rfl); (· rfl); (· rfl)) | ((with_reducible apply s_intB)) | ((with_reducible apply s_lsR)) | ((with_reducible apply s_tuR)) | ((with_reducible apply s_minDf)) | ((with_reducible apply s_revI)) | ((with_reducible apply s_rvk)) | ((with_reducible apply s_varS); (· rfl)) | ((with_reducible apply s_lst2); (· rfl)) | ((with_reducible apply s_addL); (· rfl); (· rfl); (· (refine small (k := 100000) ?_; (try simp only [List.length_append, List.length_cons, List.length_nil, List.length_map, List.length_take, List.length_drop, List.length_reverse, List.length_replicate, List.length_range]); omega))) | ((with_reducible apply s_varX); (· rfl)) | ((with_reducible apply s_isNX)) | ((with_reducible apply s_try)) | ((with_reducible apply s_isX)) | ((with_reducible apply s_cntB)) | ((with_reducible apply s_idxB)) | ((with_reducible apply s_trk); (· (first | assumption | (simp only [List.mem_cons, true_or, or_true]; done) | decide +kernel)); (· (first | (simp only [List.length_cons, List.length_nil]; omega) | decide)); (· (first | (simp only [List.set_cons_succ, List.set_cons_zero]; done) | (simp only [List.set_cons_succ, List.set_cons_zero]; rfl) | rfl))) | ((with_reducible apply s_isXT); (· (first | assumption | decide +kernel)); (· (first | assumption | decide +kernel))) | ((with_reducible apply s_isXF); (· (first | assumption | decide +kernel)); (· (first | assumption | decide +kernel))) | (with_reducible refine s_brT ?_) | (with_reducible refine s_brF ?_) | (with_reducible refine s_brD (fun h => ?_) (fun h => ?_)) | (with_reducible refine s_brN ?_) | (with_reducible refine s_brEq (eqv_nil _) ?_) | (with_reducible refine s_brE (fun h => ?_) (fun h => ?_)) | (with_reducible refine s_brEq (kd_isTuple_tuple _) ?_) | (with_reducible refine s_brEq (kd_isTuple_list _) ?_) | (with_reducible refine s_brEq (kd_isTuple_int _) ?_) | (with_reducible refine s_brEq (kd_isInt_int _) ?_) | (with_reducible refine s_brEq (kd_isInt_bool _) ?_) | (with_reducible refine s_brEq (kd_isInt_tuple _) ?_) | (with_reducible refine s_brEq (kd_isInt_list _) ?_) | (with_reducible refine s_brEq (kd_isInt_str _) ?_) | (with_reducible refine s_brEq (kd_isBool_int _) ?_) | (with_reducible refine s_brEq (kd_isBool_bool _) ?_) | (with_reducible refine s_brEq (kd_isBool_tuple _) ?_) | (with_reducible refine s_brEq (kd_isStr_str _) ?_) | (with_reducible refine s_brEq (kd_isStr_int _) ?_) | (with_reducible refine s_brEq (kd_isList_list _) ?_) | (with_reducible refine s_brEq (kd_isList_tuple _) ?_) | (with_reducible refine s_brEq (kd_non_int _) ?_) | (with_reducible refine s_brEq (kd_non_bool _) ?_) | (with_reducible refine s_brEq (kd_non_str _) ?_) | (with_reducible refine s_brEq (kd_non_tuple _) ?_) | (with_reducible refine s_brEq (kd_non_list _) ?_) | (with_reducible refine s_brEq (kd_isInt_none) ?_) | (with_reducible refine s_brEq (kd_isTuple_none) ?_) | (with_reducible refine s_brEq (kd_non_none) ?_) | (with_reducible refine s_brEq (eqv_int _ _) ?_) | (with_reducible refine s_brEq (eqv_bool _ _) ?_) | (with_reducible refine s_brEq (eqv_str _ _) ?_) | (with_reducible refine s_brEq (eqv_pt _ _) ?_) | (with_reducible refine s_brEq (eqv_pl _ _) ?_) | (with_reducible refine s_brEq (eqv_pto _ _) ?_) | (with_reducible refine s_brEq (beq_tt _) ?_)))
local macro_rules | `(tactic| o_args) => `(tactic| ((with_reducible apply s_nm); (· rfl); (· rfl); (· (first | (simp only [List.set_cons_succ, List.set_cons_zero]; done) | (simp only [List.set_cons_succ, List.set_cons_zero]; rfl) | rfl))))
set_option hygiene true
/-! common_of -/
--I X4
def S_common_of : VSp := fun ds Q _ => ∃ a b : Nat, ds = [.fr (.int (a : Nat)), .fr (.int (b : Nat))] ∧ b < 2 ^ 1000 ∧ ∀ ds', Q (.fr (.int (Nat.gcd a b : Nat))) ds'
theorem len_common_of : ∀ ds Q E, S_common_of ds Q E → ds.length = 2 := by rintro _ _ _ ⟨_, _, rfl, _⟩; rfl
abbrev N_common_of : List Str := ["one", "other"]
def t_common_of : DTS := (cSeq (cWhile (cTst (c2 (kGt) (cVar 1) (cK (.fr (.int 0))))) (cPar 0 1 (cCons (cVar 1) (cCons (c2 kMod (cVar 0) (cVar 1)) cNil)))) (cRet (cVar 0)))
theorem r_common_of : ∀ ds Q0 E0, S_common_of ds Q0 E0 → t_common_of (dEnds Q0) (ds ++ List.replicate (N_common_of.length - 2) .gone) := by
  rintro ds Q0 E0 ⟨a, b, rfl, hb, q⟩
  simp only [N_common_of, List.length_cons, List.length_nil, List.cons_append, List.nil_append, Nat.reduceAdd, Nat.reduceSub, Nat.zero_add, List.replicate_succ, List.replicate_zero]; unfold t_common_of
  o_attr
  refine s_while (fun m st => ∃ x y : Nat, m = y ∧ Nat.gcd x y = Nat.gcd a b ∧ st = [.fr (.int (x : Nat)), .fr (.int (y : Nat))]) b ⟨a, b, rfl, rfl, rfl⟩ ?_
  rintro m st ⟨x, y, rfl, hg, rfl⟩
  o_attr
  · refine ⟨x % m, Nat.mod_lt _ (by omega), m, x % m, rfl, by rw [← gcd_step (by omega)]; exact hg, ?_⟩
    rw [Int.natCast_emod]
  · obtain rfl : m = 0 := by omega
    rw [← hg, Nat.gcd_zero_right] at q
    exact q _
/-! lowest -/
--I X4
def S_lowest : VSp := fun ds Q _ => ∃ a b : Int, b ≠ 0 ∧ b.natAbs < 2 ^ 1000 ∧ ds = [.fr (.int a), .fr (.int b)] ∧ ∀ ds', Q (.fr (.tuple [.int (lowN a b), .int (lowD a b)])) ds'
theorem len_lowest : ∀ ds Q E, S_lowest ds Q E → ds.length = 2 := by rintro _ _ _ ⟨_, _, _, _, rfl, _⟩; rfl
abbrev N_lowest : List Str := ["a", "b", "shared"]
def t_lowest : DTS := (cSeq (cIfS (cTst (c2 (kLt) (cVar 1) (cK (.fr (.int 0))))) (cPar 0 1 (cCons (c2 kSub (cK (.fr (.int 0))) (cVar 0)) (cCons (c2 kSub (cK (.fr (.int 0))) (cVar 1)) cNil))) cNext) (cSeq (cAsg (cFrz (cCall [] S_common_of (cCons (cFn (g1 gAbs) (cCons (cVar 0) cNil)) (cCons (cVar 1) cNil)))) (gNm 2)) (cRet (cTup (cCons (c2 kFdiv (cVar 0) (cVar 2)) (cCons (c2 kFdiv (cVar 1) (cVar 2)) cNil))))))
theorem r_lowest : ∀ ds Q0 E0, S_lowest ds Q0 E0 → t_lowest (dEnds Q0) (ds ++ List.replicate (N_lowest.length - 2) .gone) := by
  rintro ds Q0 E0 ⟨a, b, hb, hb2, rfl, q⟩
  have hg := gcd_pos (a := a) hb
  have hgb : Int.gcd a b ≤ b.natAbs := Nat.le_of_dvd (by omega) (Nat.gcd_dvd_right _ _)
  unfold lowN lowD at q
  simp only [N_lowest, List.length_cons, List.length_nil, List.cons_append, List.nil_append, Nat.reduceAdd, Nat.reduceSub, Nat.zero_add, List.replicate_succ, List.replicate_zero]; unfold t_lowest
  with_reducible refine s_seqCut (fun st => st = [.fr (.int (if b < 0 then -a else a)), .fr (.int (b.natAbs : Nat)), .gone]) (fun K hK => ?_) ?_
  · o_attr
    · rw [if_pos h] at hK
      refine hK _ ?_
      rw [show (0 : Int) - a = -a by omega, show (0 : Int) - b = ((b.natAbs : Nat) : Int) by omega]
    · rw [if_neg h] at hK
      refine hK _ ?_
      rw [show ((b.natAbs : Nat) : Int) = b by omega]
  · rintro _ rfl
    o_attr
    refine ⟨_, b.natAbs, rfl, hb2, fun ds' => ?_⟩
    rw [show (if b < 0 then -a else a).natAbs = a.natAbs by split <;> omega, show Nat.gcd a.natAbs b.natAbs = Int.gcd a b from rfl]
    generalize hG : Int.gcd a b = G at *
    o_norm
    exact q _
/-! is_leans -/
def S_is_leans : VSp := fun ds Q _ => ∃ (m : Nat) (x : PyData) (ls : List Int), ls.length ≤ 1000 ∧ ds = [.fr (.tuple [.int (m : Nat), x]), .fr (pt ls)] ∧ ∀ ds', Q (.fr (.bool (leansB m ls))) ds'
theorem len_is_leans : ∀ ds Q E, S_is_leans ds Q E → ds.length = 2 := by rintro _ _ _ ⟨_, _, _, _, rfl, _⟩; rfl
abbrev N_is_leans : List Str := ["book", "thing", "lean"]
def t_is_leans : DTS := (cSeq (cIfS (cOr (cTst (c2 (gEq true) (cFn (g1 gLen) (cCons (cVar 1) cNil)) (c2 gIx (cVar 0) (cK (.fr (.int 0)))))) (cNot (cTst (cFn (g1 (gBools kAll)) (cCons (cLc [] [2] (cSeqI (cVar 1)) (gNm 2) cYes (cCh kleb kleb (cK (.fr (.int 0))) (cVar 2) (cK (.fr (.int 1000000000))))) cNil))))) (cRet (cK (.fr (.bool false)))) cNext) (cRet (cFn (g1 (gBools kAny)) (cCons (cLc [] [2] (cSeqI (cVar 1)) (gNm 2) cYes (c2 (kGt) (cVar 2) (cK (.fr (.int 0))))) cNil))))
theorem r_is_leans : ∀ ds Q0 E0, S_is_leans ds Q0 E0 → t_is_leans (dEnds Q0) (ds ++ List.replicate (N_is_leans.length - 2) .gone) := by
  rintro ds Q0 E0 ⟨m, x, ls, hl, rfl, q⟩
  have hll : (List.map PyData.int ls).length = ls.length := List.length_map _
  simp only [N_is_leans, List.length_cons, List.length_nil, List.cons_append, List.nil_append, Nat.reduceAdd, Nat.reduceSub, Nat.zero_add, List.replicate_succ, List.replicate_zero]; unfold t_is_leans
  o_attr
  · have hm : ls.length = m := by omega
    unfold leansB at q
    rw [decide_eq_true hm, Bool.true_and] at q
    apply s_lcMap ls .int (fun l => some (PyData.bool (decide (0 ≤ l ∧ l ≤ 1000000000)))) rfl; (· (first | (simp only [wipeD, List.set_cons_zero, List.set_cons_succ]; done) | (simp only [wipeD, List.set_cons_zero, List.set_cons_succ]; rfl))); (· (first | (simp only [rst, List.set_cons_zero, List.set_cons_succ, Option.getD_some, List.getElem?_cons_zero, List.getElem?_cons_succ]; done) | (simp only [rst, List.set_cons_zero, List.set_cons_succ, Option.getD_some, List.getElem?_cons_zero, List.getElem?_cons_succ]; rfl)))
    · trivial
    · exact small (k := 1000) hl
    · intro l hlm K hK
      o_norm
      · rw [show decide (0 ≤ l ∧ l ≤ 1000000000) = decide (l ≤ 1000000000) by rw [decide_eq_decide]; omega] at hK
        exact hK
      · rw [decide_eq_false (fun hn => by omega)] at hK
        exact hK
    · rw [fmap_some]
      o_attr
      refine s_bools (ls.map fun l => decide (0 ≤ l ∧ l ≤ 1000000000)) rfl (by rw [List.map_map]; rfl) ?_
      rw [show kAll (ls.map fun l => decide (0 ≤ l ∧ l ≤ 1000000000)) = ls.all fun l => decide (0 ≤ l ∧ l ≤ 1000000000) from all_of _ _]
      o_attr
      refine s_br (fun hb => ?_) (fun hb => ?_)
      · rw [hb, Bool.true_and] at q
        o_attr
        apply s_lcMap ls .int (fun l => some (PyData.bool (decide (0 < l)))) rfl; (· (first | (simp only [wipeD, List.set_cons_zero, List.set_cons_succ]; done) | (simp only [wipeD, List.set_cons_zero, List.set_cons_succ]; rfl))); (· (first | (simp only [rst, List.set_cons_zero, List.set_cons_succ, Option.getD_some, List.getElem?_cons_zero, List.getElem?_cons_succ]; done) | (simp only [rst, List.set_cons_zero, List.set_cons_succ, Option.getD_some, List.getElem?_cons_zero, List.getElem?_cons_succ]; rfl)))
        · trivial
        · exact small (k := 1000) hl
        · intro l hlm K hK
          o_norm
          exact hK
        · rw [fmap_some]
          o_attr
          refine s_bools (ls.map fun l => decide (0 < l)) rfl (by rw [List.map_map]; rfl) ?_
          rw [show kAny (ls.map fun l => decide (0 < l)) = ls.any fun l => decide (0 < l) from any_of _ _]
          o_attr
          exact q _
      · rw [hb, Bool.false_and] at q
        o_attr
        exact q _
  · unfold leansB at q
    rw [decide_eq_false (fun hn => by omega), Bool.false_and] at q
    exact q _
/-! need_leans -/
def S_need_leans : VSp := fun ds Q E => ∃ (m : Nat) (x : PyData) (ls : List Int), ls.length ≤ 1000 ∧ ds = [.fr (.tuple [.int (m : Nat), x]), .fr (pt ls)] ∧ ((leansB m ls = true ∧ ∀ ds', Q (.fr .none) ds') ∨ (leansB m ls = false ∧ ∀ ds', E ⟨"NoWeights", none⟩ ds'))
theorem len_need_leans : ∀ ds Q E, S_need_leans ds Q E → ds.length = 2 := by rintro _ _ _ ⟨_, _, _, _, rfl, _⟩; rfl
abbrev N_need_leans : List Str := ["book", "thing"]
def t_need_leans (EX : Xn → List Vl → Prop) : DTS := (cIfS (cNot (cTst (cCall [] S_is_leans (cCons (cVar 0) (cCons (cVar 1) cNil))))) (cRaise "NoWeights" EX) cNext)
theorem r_need_leans : ∀ ds Q0 E0, S_need_leans ds Q0 E0 → t_need_leans E0 (dEnds Q0) (ds ++ List.replicate (N_need_leans.length - 2) .gone) := by
  rintro ds Q0 E0 ⟨m, x, ls, hl, rfl, h⟩
  simp only [N_need_leans, List.length_cons, List.length_nil, List.cons_append, List.nil_append, Nat.reduceAdd, Nat.reduceSub, Nat.zero_add, List.replicate_succ, List.replicate_zero]; unfold t_need_leans
  o_attr
  refine ⟨m, x, ls, hl, rfl, fun ds' => ?_⟩
  rcases h with ⟨hb, q⟩ | ⟨hb, q⟩
  · rw [hb]
    o_attr
    exact q _
  · rw [hb]
    o_attr
    exact q _
/-! sum_by -/
def S_sum_by : VSp := fun ds Q _ => ∃ (xs ls : List Int), xs.length ≤ 1000 ∧ (∀ x ∈ xs, FarI x) ∧ ds = [.fr (pt xs), .fr (pt ls)] ∧ ∀ ds', Q (.fr (.int (dotS xs ls))) ds'
theorem len_sum_by : ∀ ds Q E, S_sum_by ds Q E → ds.length = 2 := by rintro _ _ _ ⟨_, _, _, _, rfl, _⟩; rfl
abbrev N_sum_by : List Str := ["point", "leans", "number", "lean"]
def t_sum_by : DTS := (cRet (cFn (g1 gSumA) (cCons (cLc [] [2, 3] (cZip2 (cCons (cVar 0) (cCons (cVar 1) cNil))) (gTu 2 (gsCons (gNm 2) (gsCons (gNm 3) gsNil))) cYes (c2 kMul (cVar 2) (cVar 3))) cNil)))
theorem r_sum_by : ∀ ds Q0 E0, S_sum_by ds Q0 E0 → t_sum_by (dEnds Q0) (ds ++ List.replicate (N_sum_by.length - 2) .gone) := by
  rintro ds Q0 E0 ⟨xs, ls, hx, hf, rfl, q⟩
  simp only [N_sum_by, List.length_cons, List.length_nil, List.cons_append, List.nil_append, Nat.reduceAdd, Nat.reduceSub, Nat.zero_add, List.replicate_succ, List.replicate_zero]; unfold t_sum_by
  o_attr
  apply s_lcMap (xs.zip ls) _ (fun p => some (PyData.int (p.1 * p.2))) (zip_ints xs ls); (· (first | (simp only [wipeD, List.set_cons_zero, List.set_cons_succ]; done) | (simp only [wipeD, List.set_cons_zero, List.set_cons_succ]; rfl))); (· (first | (simp only [rst, List.set_cons_zero, List.set_cons_succ, Option.getD_some, List.getElem?_cons_zero, List.getElem?_cons_succ]; done) | (simp only [rst, List.set_cons_zero, List.set_cons_succ, Option.getD_some, List.getElem?_cons_zero, List.getElem?_cons_succ]; rfl)))
  · exact ⟨rfl, rfl⟩
  · rw [List.length_zip]; exact small (k := 1000) (by omega)
  · rintro ⟨x, l⟩ hp K hK
    obtain ⟨f1, f2⟩ := hf x (List.of_mem_zip hp).1
    o_norm
    exact hK
  · rw [fmap_some, show ((xs.zip ls).map fun p => PyData.int (p.1 * p.2)) = ((xs.zip ls).map fun p => p.1 * p.2).map .int by rw [List.map_map]; rfl]
    o_attr
    refine s_sumL ((xs.zip ls).map fun p => p.1 * p.2) rfl rfl ?_
    o_attr
    exact q _
/-! sums_by -/
def S_sums_by : VSp := fun ds Q _ => ∃ (m : Int) (ps : List (List Int)) (ls : List Int), Pts ps ∧ (∀ p ∈ ps, ∀ x ∈ p, FarI x) ∧ ds = [.fr (.tuple [.int m, pts ps]), .fr (pt ls)] ∧ ∀ ds', Q (.fr (pl (ps.map fun p => dotS p ls))) ds'
theorem len_sums_by : ∀ ds Q E, S_sums_by ds Q E → ds.length = 2 := by rintro _ _ _ ⟨_, _, _, _, _, rfl, _⟩; rfl
abbrev N_sums_by : List Str := ["book", "leans", "point"]
def t_sums_by : DTS := (cRet (cFrz (cLc [] [2] (cSeqI (c2 gIx (cVar 0) (cK (.fr (.int 1))))) (gNm 2) cYes (cFrz (cCall [] S_sum_by (cCons (cVar 2) (cCons (cVar 1) cNil)))))))
theorem r_sums_by : ∀ ds Q0 E0, S_sums_by ds Q0 E0 → t_sums_by (dEnds Q0) (ds ++ List.replicate (N_sums_by.length - 2) .gone) := by
  rintro ds Q0 E0 ⟨m, ps, ls, hp, hf, rfl, q⟩
  simp only [N_sums_by, List.length_cons, List.length_nil, List.cons_append, List.nil_append, Nat.reduceAdd, Nat.reduceSub, Nat.zero_add, List.replicate_succ, List.replicate_zero]; unfold t_sums_by
  o_attr
  apply s_lcMap ps pt (fun p => some (PyData.int (dotS p ls))) rfl; (· (first | (simp only [wipeD, List.set_cons_zero, List.set_cons_succ]; done) | (simp only [wipeD, List.set_cons_zero, List.set_cons_succ]; rfl))); (· (first | (simp only [rst, List.set_cons_zero, List.set_cons_succ, Option.getD_some, List.getElem?_cons_zero, List.getElem?_cons_succ]; done) | (simp only [rst, List.set_cons_zero, List.set_cons_succ, Option.getD_some, List.getElem?_cons_zero, List.getElem?_cons_succ]; rfl)))
  · trivial
  · exact small (k := 1000) hp.1
  · intro p hpm K hK
    have := hp.2 p hpm
    o_norm
    refine ⟨p, ls, by omega, hf p hpm, rfl, fun ds' => ?_⟩
    o_attr
    exact hK
  · rw [fmap_some, show (ps.map fun p => PyData.int (dotS p ls)) = (ps.map fun p => dotS p ls).map .int by rw [List.map_map]; rfl]
    o_attr
    exact q _
/-! greatest_in -/
def S_greatest_in : VSp := fun ds Q _ => ∃ (ws : List Int), ws.length ≤ 1000 ∧ ds = [.fr (pl ws)] ∧ ∀ ds', Q (.fr (pt (nums (greatI ws)))) ds'
theorem len_greatest_in : ∀ ds Q E, S_greatest_in ds Q E → ds.length = 1 := by rintro _ _ _ ⟨_, _, rfl, _⟩; rfl
abbrev N_greatest_in : List Str := ["worths", "most", "number", "worth"]
def t_greatest_in : DTS := (cSeq (cAsg (cMaxDf (cVar 0) (cK (.fr (.int 0)))) (gNm 1)) (cRet (cFn (g1 gTpl) (cCons (cLc [] [2, 3] (cEnum (cCons (cVar 0) cNil)) (gTu 2 (gsCons (gNm 2) (gsCons (gNm 3) gsNil))) (cTst (c2 (gEq false) (cVar 3) (cVar 1))) (cVar 2)) cNil))))
theorem r_greatest_in : ∀ ds Q0 E0, S_greatest_in ds Q0 E0 → t_greatest_in (dEnds Q0) (ds ++ List.replicate (N_greatest_in.length - 1) .gone) := by
  rintro ds Q0 E0 ⟨ws, hw, rfl, q⟩
  have hen : enumD 0 (ws.map PyData.int) = (List.range ws.length).map fun (i : Nat) => .tuple [.int (i : Nat), .int (ws.getD i 0)] := by rw [map_idx (0 : Int)]; exact enum_range0 _ _
  simp only [N_greatest_in, List.length_cons, List.length_nil, List.cons_append, List.nil_append, Nat.reduceAdd, Nat.reduceSub, Nat.zero_add, List.replicate_succ, List.replicate_zero]; unfold t_greatest_in
  o_attr
  refine ⟨ws, rfl, fun h0 => ?_, fun m hm1 hm2 => ?_⟩
  · rw [show (0 : Int) = mxW ws by rw [h0]; rfl]
    o_args
    o_attr
    apply s_lcMap (List.range ws.length) (fun (i : Nat) => .tuple [.int (i : Nat), .int (ws.getD i 0)]) (fun i => if decide (ws.getD i 0 = mxW ws) then some (PyData.int (i : Nat)) else none) hen; (· (first | (simp only [wipeD, List.set_cons_zero, List.set_cons_succ]; done) | (simp only [wipeD, List.set_cons_zero, List.set_cons_succ]; rfl))); (· (first | (simp only [rst, List.set_cons_zero, List.set_cons_succ, Option.getD_some, List.getElem?_cons_zero, List.getElem?_cons_succ]; done) | (simp only [rst, List.set_cons_zero, List.set_cons_succ, Option.getD_some, List.getElem?_cons_zero, List.getElem?_cons_succ]; rfl)))
    · rfl
    · rw [List.length_range]; exact small (k := 1000) hw
    · intro i hi K hK
      o_norm
      · rw [decide_eq_true h] at hK
        exact hK
      · rw [decide_eq_false h] at hK
        exact hK
    · rw [fmap_if, show ((List.range ws.length).filter fun i => decide (ws.getD i 0 = mxW ws)) = greatI ws from rfl, ← nums_map]
      o_attr
      exact q _
  · rw [mx_of hm1 hm2]
    o_args
    o_attr
    apply s_lcMap (List.range ws.length) (fun (i : Nat) => .tuple [.int (i : Nat), .int (ws.getD i 0)]) (fun i => if decide (ws.getD i 0 = mxW ws) then some (PyData.int (i : Nat)) else none) hen; (· (first | (simp only [wipeD, List.set_cons_zero, List.set_cons_succ]; done) | (simp only [wipeD, List.set_cons_zero, List.set_cons_succ]; rfl))); (· (first | (simp only [rst, List.set_cons_zero, List.set_cons_succ, Option.getD_some, List.getElem?_cons_zero, List.getElem?_cons_succ]; done) | (simp only [rst, List.set_cons_zero, List.set_cons_succ, Option.getD_some, List.getElem?_cons_zero, List.getElem?_cons_succ]; rfl)))
    · rfl
    · rw [List.length_range]; exact small (k := 1000) hw
    · intro i hi K hK
      o_norm
      · rw [decide_eq_true h] at hK
        exact hK
      · rw [decide_eq_false h] at hK
        exact hK
    · rw [fmap_if, show ((List.range ws.length).filter fun i => decide (ws.getD i 0 = mxW ws)) = greatI ws from rfl, ← nums_map]
      o_attr
      exact q _
/-! best_by -/
def S_best_by : VSp := fun ds Q E => ∃ (m : Nat) (ps : List (List Int)) (ls : List Int), Pts ps ∧ (∀ p ∈ ps, ∀ x ∈ p, FarI x) ∧ ls.length ≤ 1000 ∧ ds = [.fr (.tuple [.int (m : Nat), pts ps]), .fr (pt ls)] ∧ ((leansB m ls = true ∧ ∀ ds', Q (.fr (pt (nums (bestN ps ls)))) ds') ∨ (leansB m ls = false ∧ ∀ ds', E ⟨"NoWeights", none⟩ ds'))
theorem len_best_by : ∀ ds Q E, S_best_by ds Q E → ds.length = 2 := by rintro _ _ _ ⟨_, _, _, _, _, _, rfl, _⟩; rfl
abbrev N_best_by : List Str := ["book", "leans"]
def t_best_by (EX : Xn → List Vl → Prop) : DTS := (cSeq (cDrop (cCallX [] S_need_leans EX (cCons (cVar 0) (cCons (cVar 1) cNil)))) (cRet (cFrz (cCall [] S_greatest_in (cCons (cFrz (cCall [] S_sums_by (cCons (cVar 0) (cCons (cVar 1) cNil)))) cNil)))))
theorem r_best_by : ∀ ds Q0 E0, S_best_by ds Q0 E0 → t_best_by E0 (dEnds Q0) (ds ++ List.replicate (N_best_by.length - 2) .gone) := by
  rintro ds Q0 E0 ⟨m, ps, ls, hp, hf, hl, rfl, h⟩
  simp only [N_best_by, List.length_cons, List.length_nil, List.cons_append, List.nil_append, Nat.reduceAdd, Nat.reduceSub, Nat.zero_add, List.replicate_succ, List.replicate_zero]; unfold t_best_by
  o_attr
  refine ⟨m, _, ls, hl, rfl, ?_⟩
  rcases h with ⟨hb, q⟩ | ⟨hb, q⟩
  · refine .inl ⟨hb, fun ds' => ?_⟩
    o_attr
    refine ⟨_, ps, ls, hp, hf, rfl, fun ds' => ?_⟩
    o_attr
    refine ⟨_, by rw [List.length_map]; exact hp.1, rfl, fun ds' => ?_⟩
    o_attr
    exact q _
  · refine .inr ⟨hb, fun ds' => ?_⟩
    o_attr
    exact q _
/-! worths_at -/
--I X21
def S_worths_at : VSp := fun ds Q _ => ∃ (L : List Ln) (t : Ln), L.length ≤ 1000 ∧ (∀ l ∈ L, LB l) ∧ ds = [.fr (.list (L.map lnD)), .fr (lnD t)] ∧ ∀ ds', Q (.fr (pl (L.map fun l => wor l t))) ds'
theorem len_worths_at : ∀ ds Q E, S_worths_at ds Q E → ds.length = 2 := by rintro _ _ _ ⟨_, _, _, _, rfl, _⟩; rfl
abbrev N_worths_at : List Str := ["lines", "at", "start", "end"]
def t_worths_at : DTS := (cRet (cFrz (cLc [] [2, 3] (cSeqI (cVar 0)) (gTu 2 (gsCons (gNm 2) (gsCons (gNm 3) gsNil))) cYes (c2 gAdd (c2 kMul (cVar 2) (c2 kSub (c2 gIx (cVar 1) (cK (.fr (.int 1)))) (c2 gIx (cVar 1) (cK (.fr (.int 0)))))) (c2 kMul (cVar 3) (c2 gIx (cVar 1) (cK (.fr (.int 0)))))))))
theorem r_worths_at : ∀ ds Q0 E0, S_worths_at ds Q0 E0 → t_worths_at (dEnds Q0) (ds ++ List.replicate (N_worths_at.length - 2) .gone) := by
  rintro ds Q0 E0 ⟨L, t, hL, hb, rfl, q⟩
  rw [show lnD t = .tuple [.int t.1, .int t.2] from rfl]
  simp only [N_worths_at, List.length_cons, List.length_nil, List.cons_append, List.nil_append, Nat.reduceAdd, Nat.reduceSub, Nat.zero_add, List.replicate_succ, List.replicate_zero]; unfold t_worths_at
  o_attr
  apply s_lcMap L lnD (fun l => some (PyData.int (wor l t))) rfl; (· (first | (simp only [wipeD, List.set_cons_zero, List.set_cons_succ]; done) | (simp only [wipeD, List.set_cons_zero, List.set_cons_succ]; rfl))); (· (first | (simp only [rst, List.set_cons_zero, List.set_cons_succ, Option.getD_some, List.getElem?_cons_zero, List.getElem?_cons_succ]; done) | (simp only [rst, List.set_cons_zero, List.set_cons_succ, Option.getD_some, List.getElem?_cons_zero, List.getElem?_cons_succ]; rfl)))
  · trivial
  · exact small (k := 1000) hL
  · intro l hl K hK
    obtain ⟨b1, b2, b3, b4⟩ := hb l hl
    rw [show lnD l = .tuple [.int l.1, .int l.2] from rfl]
    o_norm
    exact hK
  rw [fmap_some]
  o_attr
  rw [show (L.map fun l => PyData.int (wor l t)) = (L.map fun l => wor l t).map .int by rw [List.map_map]; rfl]
  exact q _
/-! is_ahead -/
--I X21
def S_is_ahead : VSp := fun ds Q _ => ∃ (s t : Ln), FW s ∧ FW t ∧ ds = [.fr (lnD s), .fr (lnD t)] ∧ ∀ ds', Q (.fr (.bool (decide (s.1 * t.2 < t.1 * s.2)))) ds'
theorem len_is_ahead : ∀ ds Q E, S_is_ahead ds Q E → ds.length = 2 := by rintro _ _ _ ⟨_, _, _, _, rfl, _⟩; rfl
abbrev N_is_ahead : List Str := ["one", "other"]
def t_is_ahead : DTS := (cRet (c2 (kLt) (c2 kMul (c2 gIx (cVar 0) (cK (.fr (.int 0)))) (c2 gIx (cVar 1) (cK (.fr (.int 1))))) (c2 kMul (c2 gIx (cVar 1) (cK (.fr (.int 0)))) (c2 gIx (cVar 0) (cK (.fr (.int 1)))))))
theorem r_is_ahead : ∀ ds Q0 E0, S_is_ahead ds Q0 E0 → t_is_ahead (dEnds Q0) (ds ++ List.replicate (N_is_ahead.length - 2) .gone) := by
  rintro ds Q0 E0 ⟨s, t, ⟨s1, s2⟩, ⟨t1, t2⟩, rfl, q⟩
  rw [show lnD s = .tuple [.int s.1, .int s.2] from rfl, show lnD t = .tuple [.int t.1, .int t.2] from rfl]
  have s1' := FW.k s1
  have s2' := FW.k s2
  have t1' := FW.k t1
  have t2' := FW.k t2
  simp only [N_is_ahead, List.length_cons, List.length_nil, List.cons_append, List.nil_append, Nat.reduceAdd, Nat.reduceSub, Nat.zero_add, List.replicate_succ, List.replicate_zero]; unfold t_is_ahead
  o_attr
  exact q _
/-! break_behind -/
--I X21
def S_break_behind : VSp := fun ds Q _ => ∃ (L : List Ln) (h : Ln), L.length ≤ 1000 ∧ (∀ l ∈ L, LB l) ∧ LB h ∧ (∀ l ∈ L, h.2 < l.2 → 0 ≤ h.1 - l.1) ∧ ds = [.fr (.list (L.map lnD)), .fr (lnD h)] ∧ ∀ ds', Q (.fr (frO (brk L h))) ds'
theorem len_break_behind : ∀ ds Q E, S_break_behind ds Q E → ds.length = 2 := by rintro _ _ _ ⟨_, _, _, _, _, _, rfl, _⟩; rfl
abbrev N_break_behind : List Str := ["lines", "here", "found", "start", "end", "at"]
def t_break_behind : DTS := (cSeq (cAsg (cK (.fr .none)) (gNm 2)) (cSeq (cFor [] (cSeqI (cVar 0)) (gTu 2 (gsCons (gNm 3) (gsCons (gNm 4) gsNil))) (cIfS (cTst (c2 (kGt) (cVar 4) (c2 gIx (cVar 1) (cK (.fr (.int 1)))))) (cSeq (cAsg (cFrz (cCall [] S_lowest (cCons (c2 kSub (c2 gIx (cVar 1) (cK (.fr (.int 0)))) (cVar 3)) (cCons (c2 kSub (c2 gAdd (c2 kSub (c2 gIx (cVar 1) (cK (.fr (.int 0)))) (cVar 3)) (cVar 4)) (c2 gIx (cVar 1) (cK (.fr (.int 1))))) cNil)))) (gNm 5)) (cIfS (cOr (cTst (c2 (gIsN false) (cVar 2) (cK (.fr .none)))) (cTst (cCall [] S_is_ahead (cCons (cVar 5) (cCons (cVar 2) cNil))))) (cAsg (cVar 5) (gNm 2)) cNext)) cNext)) (cRet (cVar 2))))
theorem r_break_behind : ∀ ds Q0 E0, S_break_behind ds Q0 E0 → t_break_behind (dEnds Q0) (ds ++ List.replicate (N_break_behind.length - 2) .gone) := by
  rintro ds Q0 E0 ⟨L, h0, hL, hb, hh, hc, rfl, q⟩
  obtain ⟨c1, c2, c3, c4⟩ := id hh
  rw [show lnD h0 = .tuple [.int h0.1, .int h0.2] from rfl]
  simp only [N_break_behind, List.length_cons, List.length_nil, List.cons_append, List.nil_append, Nat.reduceAdd, Nat.reduceSub, Nat.zero_add, List.replicate_succ, List.replicate_zero]; unfold t_break_behind
  o_attr
  o_args
  o_attr
  refine s_forMap L lnD (fun l' st => ∃ (S : List Ln) (f : Option Ln) (d3 d4 d5 : Vl), L = S ++ l' ∧ f = S.foldl (brkStep h0) none ∧ (∀ t, f = some t → FB t) ∧ st = [.fr (.list (L.map lnD)), .fr (.tuple [.int h0.1, .int h0.2]), .fr (frO f), d3, d4, d5]) rfl trivial ⟨[], none, _, _, _, rfl, rfl, fun t e => (by cases e), rfl⟩ ?_ ?_
  · rintro l l' st ⟨S, f, d3, d4, d5, hS, hf, hfb, rfl⟩ K hK
    have hl : l ∈ L := by rw [hS]; simp
    obtain ⟨b1, b2, b3, b4⟩ := id (hb l hl)
    have hS2 : L = (S ++ [l]) ++ l' := by rw [hS]; simp
    rw [show lnD l = .tuple [.int l.1, .int l.2] from rfl]
    o_norm
    · have hc1 := hc l hl h
      have hfb2 := crs_fb (hb l hl) hh hc1 h
      refine ⟨h0.1 - l.1, h0.1 - l.1 + l.2 - h0.2, by omega, Nat.lt_of_lt_of_le (show _ < 2 ^ 65 by omega) (Nat.pow_le_pow_right (by decide) (by decide)), rfl, fun ds' => ?_⟩
      o_attr
      rw [show PyData.tuple [.int (lowN (h0.1 - l.1) (h0.1 - l.1 + l.2 - h0.2)), .int (lowD (h0.1 - l.1) (h0.1 - l.1 + l.2 - h0.2))] = lnD (crs h0 l) from rfl]
      o_args
      have hstep : (S ++ [l]).foldl (brkStep h0) none = brkStep h0 f l := by rw [brk_snoc, hf]
      cases f with
      | none =>
        rw [show frO none = .none from rfl]
        o_norm
        exact hK _ ⟨S ++ [l], some (crs h0 l), _, _, _, hS2, by rw [hstep]; unfold brkStep; rw [if_pos h], fun t e => by cases e; exact hfb2, rfl⟩ trivial
      | some g =>
        rw [show frO (some g) = lnD g from rfl]
        rw [show lnD g = .tuple [.int g.1, .int g.2] from rfl]
        o_attr
        refine ⟨crs h0 l, g, hfb2.w, (hfb g rfl).w, rfl, fun ds' => ?_⟩
        o_attr
        · o_args
          exact hK _ ⟨S ++ [l], some (crs h0 l), _, _, _, hS2, by rw [hstep]; unfold brkStep; rw [if_pos (by assumption)]; dsimp only; rw [if_pos h], fun t e => by cases e; exact hfb2, rfl⟩ trivial
        · exact hK _ ⟨S ++ [l], some g, _, _, _, hS2, by rw [hstep]; unfold brkStep; rw [if_pos (by assumption)]; dsimp only; rw [if_neg (by assumption)], hfb, rfl⟩ trivial
    · exact hK _ ⟨S ++ [l], f, _, _, _, hS2, by rw [brk_snoc, ← hf]; unfold brkStep; rw [if_neg h], hfb, rfl⟩ trivial
  · rintro st ⟨S, f, d3, d4, d5, hS, hf, hfb, rfl⟩
    rw [List.append_nil] at hS
    o_attr
    rw [hf, ← hS]
    exact q _
/-! steepest_at -/
--I X21
def S_steepest_at : VSp := fun ds Q _ => ∃ (L : List Ln) (t : Ln), L.length ≤ 1000 ∧ L ≠ [] ∧ (∀ l ∈ L, LB l) ∧ FB t ∧ ds = [.fr (.list (L.map lnD)), .fr (lnD t)] ∧ ∀ ds', Q (.fr (lnD (steeL L t))) ds'
theorem len_steepest_at : ∀ ds Q E, S_steepest_at ds Q E → ds.length = 2 := by rintro _ _ _ ⟨_, _, _, _, _, _, rfl, _⟩; rfl
abbrev N_steepest_at : List Str := ["lines", "at", "some", "worth", "rise", "start", "end"]
def t_steepest_at : DTS := (cSeq (cAsg (cFrz (cLc [] [3, 5, 6] (cZip2 (cCons (cFrz (cCall [] S_worths_at (cCons (cVar 0) (cCons (cVar 1) cNil)))) (cCons (cVar 0) cNil))) (gTu 2 (gsCons (gNm 3) (gsCons (gTu 2 (gsCons (gNm 5) (gsCons (gNm 6) gsNil))) gsNil))) cYes (cTup (cCons (cVar 3) (cCons (c2 kSub (cVar 6) (cVar 5)) (cCons (cVar 5) cNil)))))) (gNm 2)) (cSeq (cAsg (cFn (g1 gMaxP) (cCons (cVar 2) cNil)) (gTu 3 (gsCons (gNm 3) (gsCons (gNm 4) (gsCons (gNm 5) gsNil))))) (cRet (cTup (cCons (cVar 5) (cCons (c2 gAdd (cVar 5) (cVar 4)) cNil))))))
theorem zip_wor (f : Ln → Int) : ∀ L : List Ln, zip2D ((L.map f).map .int) (L.map lnD) = L.map fun l => .tuple [.int (f l), lnD l]
  | [] => rfl
  | l :: L => by
    rw [List.map_cons, List.map_cons, List.map_cons, List.map_cons, ← zip_wor f L]
    rfl
theorem r_steepest_at : ∀ ds Q0 E0, S_steepest_at ds Q0 E0 → t_steepest_at (dEnds Q0) (ds ++ List.replicate (N_steepest_at.length - 2) .gone) := by
  rintro ds Q0 E0 ⟨L, t, hL, hne, hb, ht, rfl, q⟩
  simp only [N_steepest_at, List.length_cons, List.length_nil, List.cons_append, List.nil_append, Nat.reduceAdd, Nat.reduceSub, Nat.zero_add, List.replicate_succ, List.replicate_zero]; unfold t_steepest_at
  o_attr
  refine ⟨L, t, hL, hb, rfl, fun ds' => ?_⟩
  o_attr
  apply s_lcMap L (fun l => .tuple [.int (wor l t), lnD l]) (fun l => some (pt (tri t l))) (zip_wor _ L); (· (first | (simp only [wipeD, List.set_cons_zero, List.set_cons_succ]; done) | (simp only [wipeD, List.set_cons_zero, List.set_cons_succ]; rfl))); (· (first | (simp only [rst, List.set_cons_zero, List.set_cons_succ, Option.getD_some, List.getElem?_cons_zero, List.getElem?_cons_succ]; done) | (simp only [rst, List.set_cons_zero, List.set_cons_succ, Option.getD_some, List.getElem?_cons_zero, List.getElem?_cons_succ]; rfl)))
  · exact ⟨rfl, rfl⟩
  · exact small (k := 1000) hL
  · intro l hl K hK
    rw [show lnD l = .tuple [.int l.1, .int l.2] from rfl]
    o_norm
    exact hK
  rw [fmap_some, show (L.map fun l => pt (tri t l)) = (L.map (tri t)).map pt by rw [List.map_map]; rfl]
  o_attr
  o_args
  o_attr
  unfold steeL at q
  cases e : L.map (tri t) with
  | nil => exact absurd (List.map_eq_nil_iff.mp e) hne
  | cons p ps =>
    rw [e] at q
    obtain ⟨⟨h, hh, eh⟩, _⟩ := mx_of_map e
    refine s_maxP p ps rfl ?_
    have e2 : steeP (p :: ps) = (h.1, h.1 + (h.2 - h.1)) := by
      show ((mxP p ps).getD 2 0, (mxP p ps).getD 2 0 + (mxP p ps).getD 1 0) = _
      rw [eh]; rfl
    rw [e2] at q
    rw [eh, show pt (tri t h) = .tuple [.int (wor h t), .int (h.2 - h.1), .int h.1] from rfl]
    o_norm
    exact q _
/-! breaks_of -/
--I X21
def S_breaks_of : VSp := fun ds Q _ => ∃ (L : List Ln), L.length ≤ 1000 ∧ (∀ l ∈ L, LB l) ∧ ds = [.fr (.list (L.map lnD))] ∧ ∀ ds', (∀ t ∈ brks L, FB t) → Q (.fr (.tuple ((brks L).map lnD))) ds'
theorem len_breaks_of : ∀ ds Q E, S_breaks_of ds Q E → ds.length = 1 := by rintro _ _ _ ⟨_, _, _, rfl, _⟩; rfl
abbrev N_breaks_of : List Str := ["lines", "found", "here", "turn", "at"]
def t_breaks_of : DTS := (cSeq (cAsg (cLst cNil) (gNm 1)) (cSeq (cAsg (cMaxPD (cVar 0) (cK (.fr (.tuple [.int 0, .int 1])))) (gNm 2)) (cSeq (cFor [] (cRng1 (cCons (cFn (g1 gLen) (cCons (cVar 0) cNil)) cNil)) (gNm 3) (cSeq (cAsg (cFrz (cCall [] S_break_behind (cCons (cVar 0) (cCons (cVar 2) cNil)))) (gNm 4)) (cIfS (cTst (c2 (gIsN true) (cVar 4) (cK (.fr .none)))) (cSeq (cDrop (cMth' gApp (cVar 1) (cCons (cVar 4) cNil))) (cAsg (cFrz (cCall [] S_steepest_at (cCons (cVar 0) (cCons (cVar 4) cNil)))) (gNm 2))) cNext))) (cRet (cFn (g1 gTpl) (cCons (cVar 1) cNil))))))
theorem wrun_no {L : List Ln} {h : Ln} (e : brk L h = none) : ∀ n, wrun steeL L n h = []
  | 0 => rfl
  | n + 1 => by rw [wrun, e]
theorem r_breaks_of : ∀ ds Q0 E0, S_breaks_of ds Q0 E0 → t_breaks_of (dEnds Q0) (ds ++ List.replicate (N_breaks_of.length - 1) .gone) := by
  rintro ds Q0 E0 ⟨L, hL, hb, rfl, q⟩
  have hlm : (L.map lnD).length = L.length := List.length_map _
  have hdu : L.map lnD = (L.map duo).map pt := by rw [List.map_map]; rfl
  simp only [N_breaks_of, List.length_cons, List.length_nil, List.cons_append, List.nil_append, Nat.reduceAdd, Nat.reduceSub, Nat.zero_add, List.replicate_succ, List.replicate_zero]; unfold t_breaks_of
  o_attr
  o_args
  o_attr
  refine s_maxPDK (L.map duo) (by rw [← hdu]; rfl) (fun e => ?_) fun p ps e => ?_
  · have e2 : L = [] := List.map_eq_nil_iff.mp e
    subst e2
    o_args
    o_attr
    rw [show ((List.map lnD ([] : List Ln)).length : Int) = ((0 : Nat) : Int) from rfl]
    refine s_rng1K (by omega) (by omega) ?_
    o_attr
    refine s_forMap (List.range 0) (fun (i : Nat) => .int (i : Int)) (fun l' st => ∃ (d2 d3 d4 : Vl), l' = [] ∧ st = [.fr (.list ([].map lnD)), .ow [], d2, d3, d4]) (rngN 0) trivial ⟨_, _, _, rfl, rfl⟩ ?_ ?_
    · rintro i l' st ⟨d2, d3, d4, e, rfl⟩ K hK
      cases e
    · rintro st ⟨d2, d3, d4, e, rfl⟩
      o_attr
      exact q _ (fun t ht => by cases ht)
  · have hne : L ≠ [] := fun z => by subst z; cases e
    have ehd : pt (mxP p ps) = lnD (hdL L) := by
      unfold hdL
      rw [e]
      obtain ⟨⟨h, hh, eh⟩, _⟩ := mx_of_map e
      show _ = lnD ((mxP p ps).getD 0 0, (mxP p ps).getD 1 0)
      rw [eh]; rfl
    rw [ehd]
    o_args
    o_attr
    rw [hlm]
    refine s_rng1K (by omega) (by omega) ?_
    o_attr
    refine s_forMap (List.range L.length) (fun (i : Nat) => .int (i : Int)) (fun l' st => ∃ (pre : List Ln) (n : Nat) (s h : Ln) (d3 d4 : Vl), l'.length = n ∧ brks L = pre ++ wrun steeL L n h ∧ pre.length + n ≤ L.length ∧ (∀ t ∈ pre, FB t) ∧ 0 < s.2 ∧ 0 ≤ s.1 ∧ flt s (1, 1) ∧ Steep L h s ∧ st = [.fr (.list (L.map lnD)), .ow (pre.map lnD), .fr (lnD h), d3, d4]) (rngN L.length) trivial ⟨[], L.length, (0, 1), hdL L, _, _, List.length_range, rfl, by simp, fun t ht => (by cases ht), by decide, by decide, by unfold flt; decide, hd_ok hne, rfl⟩ ?_ ?_
    · rintro i l' st ⟨pre, n, s, h, d3, d4, hn, hbr, hlen, hfb, s0, s1, s2, S, rfl⟩ K hK
      obtain ⟨n, rfl⟩ : ∃ m, n = m + 1 := ⟨l'.length, by rw [← hn, List.length_cons]⟩
      have hn : l'.length = n := by rw [List.length_cons] at hn; omega
      have hpm : (pre.map lnD).length = pre.length := List.length_map _
      have hh : LB h := hb h S.1.1
      have hcond : ∀ l ∈ L, h.2 < l.2 → 0 ≤ h.1 - l.1 := fun l hl c => by
        have h1 := S.1.2 l hl
        by_cases z : h.1 < l.1
        · exfalso
          have d : 0 < s.2 - s.1 := by unfold flt at s2; simp only at s2; omega
          have a := Int.mul_lt_mul_of_pos_right z d
          have b := Int.mul_le_mul_of_nonneg_right (Int.le_of_lt c) s1
          unfold wor at h1
          omega
        · omega
      o_args
      o_attr
      refine ⟨L, h, hL, hb, hh, hcond, rfl, fun ds' => ?_⟩
      o_attr
      o_args
      cases eb : brk L h with
      | none =>
        rw [show frO none = .none from rfl]
        o_attr
        refine hK _ ⟨pre, n, s, h, _, _, hn, ?_, by omega, hfb, s0, s1, s2, S, rfl⟩ trivial
        rw [hbr, wrun_no eb, wrun_no eb]
      | some t =>
        have hp : ∀ l ∈ L, h.2 < l.2 → 0 < h.1 - l.1 + l.2 - h.2 := fun l hl c => by have := hcond l hl c; omega
        obtain ⟨_, B2⟩ := brk_ok hp
        obtain ⟨⟨l0, hl0, c0, e0⟩, _⟩ := B2 t eb
        have tfb : FB t := by rw [e0]; exact crs_fb (hb l0 hl0) hh (hcond l0 hl0 c0) c0
        have t1 : flt t (1, 1) := by
          have h1 := (crs_ok (hp l0 hl0 c0)).cmp (1, 1) (by decide)
          rw [wor_one, wor_one, ← e0] at h1
          unfold fle at h1
          unfold flt
          have h2 : ¬ l0.2 ≤ h.2 := by omega
          have h3 := fun z => h2 (h1.mpr z)
          simp only at h3 ⊢
          omega
        rw [show frO (some t) = lnD t from rfl]
        rw [show lnD t = .tuple [.int t.1, .int t.2] from rfl]
        o_attr
        rw [show PyData.tuple [.int t.1, .int t.2] = lnD t from rfl]
        refine ⟨L, t, hL, hne, hb, tfb, rfl, fun ds' => ?_⟩
        o_attr
        o_args
        refine hK _ ⟨pre ++ [t], n, t, steeL L t, _, _, hn, ?_, by rw [List.length_append, List.length_singleton]; omega, fun u hu => ?_, tfb.1, tfb.2.2.1, t1, stee_ok t hne tfb.1, by rw [List.map_append]; rfl⟩ trivial
        · rw [hbr, List.append_assoc]
          congr 1
          show wrun steeL L (n + 1) h = [t] ++ wrun steeL L n (steeL L t)
          rw [wrun, eb]; rfl
        · rcases List.mem_append.mp hu with hu | hu
          · exact hfb u hu
          · rw [List.mem_singleton.mp hu]; exact tfb
    · rintro st ⟨pre, n, s, h, d3, d4, hn, hbr, hlen, hfb, s0, s1, s2, S, rfl⟩
      have hn : n = 0 := hn.symm
      subst hn
      rw [show wrun steeL L 0 h = [] from rfl, List.append_nil] at hbr
      o_attr
      rw [← hbr]
      exact q _ (by rw [hbr]; exact hfb)
/-! bests_between -/
--I X21
def S_bests_between : VSp := fun ds Q _ => ∃ (L T : List Ln), L.length ≤ 1000 ∧ T.length ≤ 1000 ∧ (∀ l ∈ L, LB l) ∧ ds = [.fr (.list (L.map lnD)), .fr (.tuple (T.map lnD))] ∧ ∀ ds', Q (.fr (pts (bsts L T))) ds'
theorem len_bests_between : ∀ ds Q E, S_bests_between ds Q E → ds.length = 2 := by rintro _ _ _ ⟨_, _, _, _, _, rfl, _⟩; rfl
abbrev N_bests_between : List Str := ["lines", "breaks", "ends", "at", "ahead", "behind", "number"]
def t_bests_between : DTS := (cSeq (cAsg (cFrz (cLc [] [3] (cSeqI (c2 gAdd (c2 gAdd (cTup (cCons (cK (.fr (.tuple [.int 0, .int 1]))) cNil)) (cVar 1)) (cTup (cCons (cK (.fr (.tuple [.int 1, .int 1]))) cNil)))) (gNm 3) cYes (cFrz (cCall [] S_greatest_in (cCons (cFrz (cCall [] S_worths_at (cCons (cVar 0) (cCons (cVar 3) cNil)))) cNil))))) (gNm 2)) (cRet (cFn (g1 gTpl) (cCons (cLc [] [4, 5] (cZip2 (cCons (cVar 2) (cCons (cFrz (cSl (cVar 2) (cPt (cK (.fr (.int 1)))) cNoP)) cNil))) (gTu 2 (gsCons (gNm 4) (gsCons (gNm 5) gsNil))) cYes (cFn (g1 gTpl) (cCons (cLc [] [6] (cSeqI (cVar 4)) (gNm 6) (cTst (c2 (gIn false) (cVar 6) (cVar 5))) (cVar 6)) cNil))) cNil))))
theorem zipW_bst : ∀ as bs : List (List Int), List.zipWith bstB as bs = (as.zip bs).map fun p => bstB p.1 p.2
  | [], _ => rfl
  | a :: as, [] => rfl
  | a :: as, b :: bs => by
    rw [List.zip_cons_cons, List.map_cons, ← zipW_bst as bs]
    rfl
theorem any_intW (b : List Int) (x : Int) : ((b.map PyData.int).any fun z => PyData.eqv z (.int x)) = decide (x ∈ b) := by
  rw [Bool.eq_iff_iff, List.any_map, List.any_eq_true, decide_eq_true_eq]
  constructor
  · rintro ⟨y, hy, e⟩
    have e : PyData.eqv (.int y) (.int x) = true := e
    rw [eqv_int, decide_eq_true_eq] at e
    rw [← e]; exact hy
  · intro h
    exact ⟨x, h, by show PyData.eqv (.int x) (.int x) = true; rw [eqv_int, decide_eq_true_eq]⟩
theorem zip_bst : ∀ as bs : List (List Int), zip2D (as.map pt) (bs.map pt) = (as.zip bs).map fun p => .tuple [pt p.1, pt p.2]
  | [], _ => rfl
  | a :: as, [] => rfl
  | a :: as, b :: bs => by
    rw [List.zip_cons_cons, List.map_cons, List.map_cons, List.map_cons, ← zip_bst as bs]
    rfl
theorem r_bests_between : ∀ ds Q0 E0, S_bests_between ds Q0 E0 → t_bests_between (dEnds Q0) (ds ++ List.replicate (N_bests_between.length - 2) .gone) := by
  rintro ds Q0 E0 ⟨L, T, hL, hT, hb, rfl, q⟩
  have hTm : (T.map lnD).length = T.length := List.length_map _
  obtain ⟨E, eE⟩ : ∃ E, (0, 1) :: T ++ [(1, 1)] = E := ⟨_, rfl⟩
  have hEl : E.length ≤ 1002 := by rw [← eE]; simp; omega
  unfold bsts at q
  rw [eE] at q
  simp only [N_bests_between, List.length_cons, List.length_nil, List.cons_append, List.nil_append, Nat.reduceAdd, Nat.reduceSub, Nat.zero_add, List.replicate_succ, List.replicate_zero]; unfold t_bests_between
  o_attr
  rw [show [PyData.tuple [.int 0, .int 1]] ++ T.map lnD ++ [.tuple [.int 1, .int 1]] = E.map lnD by rw [← eE, List.map_append, List.map_cons]; rfl]
  o_attr
  apply s_lcMap E lnD (fun t => some (pt (bstE L t))) rfl; (· (first | (simp only [wipeD, List.set_cons_zero, List.set_cons_succ]; done) | (simp only [wipeD, List.set_cons_zero, List.set_cons_succ]; rfl))); (· (first | (simp only [rst, List.set_cons_zero, List.set_cons_succ, Option.getD_some, List.getElem?_cons_zero, List.getElem?_cons_succ]; done) | (simp only [rst, List.set_cons_zero, List.set_cons_succ, Option.getD_some, List.getElem?_cons_zero, List.getElem?_cons_succ]; rfl)))
  · trivial
  · exact small (k := 2000) (by omega)
  · intro t htm K hK
    o_norm
    refine ⟨L, t, hL, hb, rfl, fun ds' => ?_⟩
    o_attr
    refine ⟨L.map fun l => wor l t, by rw [List.length_map]; exact hL, rfl, fun ds' => ?_⟩
    o_attr
    exact hK
  rw [fmap_some, show (E.map fun t => pt (bstE L t)) = (E.map (bstE L)).map pt by rw [List.map_map]; rfl]
  obtain ⟨G, eG⟩ : ∃ G, E.map (bstE L) = G := ⟨_, rfl⟩
  rw [eG] at q ⊢
  have hG : G.length ≤ 1002 := by rw [← eG, List.length_map]; exact hEl
  have hG2 : ∀ g ∈ G, g.length ≤ 1000 := fun g hg => by
    rw [← eG] at hg
    obtain ⟨t, _, rfl⟩ := List.mem_map.mp hg
    unfold bstE nums
    rw [List.length_map]
    refine Nat.le_trans (great_length _) ?_
    rw [List.length_map]; exact hL
  o_attr
  o_args
  o_attr
  rw [show cut (G.map pt) (some 1) none = (G.drop 1).map pt by rw [show ((1 : Int)) = ((1 : Nat) : Int) from rfl, cut_drop, List.map_drop]]
  apply s_lcMap (G.zip (G.drop 1)) (fun p => .tuple [pt p.1, pt p.2]) (fun p => some (pt (bstB p.1 p.2))) (zip_bst G (G.drop 1)); (· (first | (simp only [wipeD, List.set_cons_zero, List.set_cons_succ]; done) | (simp only [wipeD, List.set_cons_zero, List.set_cons_succ]; rfl))); (· (first | (simp only [rst, List.set_cons_zero, List.set_cons_succ, Option.getD_some, List.getElem?_cons_zero, List.getElem?_cons_succ]; done) | (simp only [rst, List.set_cons_zero, List.set_cons_succ, Option.getD_some, List.getElem?_cons_zero, List.getElem?_cons_succ]; rfl)))
  · exact ⟨rfl, rfl⟩
  · rw [List.length_zip]; exact small (k := 2000) (by omega)
  · rintro ⟨a, b⟩ hab K hK
    have ha : a ∈ G := (List.of_mem_zip hab).1
    have hb2 : b ∈ G := List.mem_of_mem_drop (List.of_mem_zip hab).2
    o_norm
    apply s_lcMap a .int (fun x => if decide (x ∈ b) = true then some (.int x) else none) rfl; (· (first | (simp only [wipeD, List.set_cons_zero, List.set_cons_succ]; done) | (simp only [wipeD, List.set_cons_zero, List.set_cons_succ]; rfl))); (· (first | (simp only [rst, List.set_cons_zero, List.set_cons_succ, Option.getD_some, List.getElem?_cons_zero, List.getElem?_cons_succ]; done) | (simp only [rst, List.set_cons_zero, List.set_cons_succ, Option.getD_some, List.getElem?_cons_zero, List.getElem?_cons_succ]; rfl)))
    · trivial
    · exact small (k := 1000) (hG2 a ha)
    · intro x hx K2 hK2
      o_norm
      refine s_inT rfl rfl (by rfl) (dep_ints _ _) ?_
      rw [any_intW]
      refine s_brEq rfl ?_
      o_attr
      · rw [if_pos (decide_eq_true h)] at hK2
        exact hK2
      · rw [if_neg (by rw [decide_eq_false h]; decide)] at hK2
        exact hK2
    rw [fmap_if]
    o_attr
    exact hK
  rw [fmap_some]
  o_attr
  rw [show ((G.zip (G.drop 1)).map fun p => pt (bstB p.1 p.2)) = (List.zipWith bstB G (G.drop 1)).map pt by rw [zipW_bst, List.map_map]; rfl]
  exact q _
/-! lines_of -/
--I X26 X25
def S_lines_of : VSp := fun ds Q E => ∃ (m : Nat) (ps : List (List Int)) (a b : List Int), Pts ps ∧ (∀ p ∈ ps, ∀ x ∈ p, FarI x) ∧ a.length ≤ 1000 ∧ b.length ≤ 1000 ∧ ds = [.fr (.tuple [.int (m : Nat), pts ps]), .fr (pt a), .fr (pt b)] ∧ ((leansB m a = true ∧ leansB m b = true ∧ ∀ ds', Q (.fr (.list ((lnOf ps a b).map lnD))) ds') ∨ (leansB m a = false ∧ ∀ ds', E ⟨"NoWeights", none⟩ ds') ∨ (leansB m a = true ∧ leansB m b = false ∧ ∀ ds', E ⟨"NoWeights", none⟩ ds'))
theorem len_lines_of : ∀ ds Q E, S_lines_of ds Q E → ds.length = 3 := by rintro _ _ _ ⟨_, _, _, _, _, _, _, _, rfl, _⟩; rfl
abbrev N_lines_of : List Str := ["book", "one", "other"]
def t_lines_of (EX : Xn → List Vl → Prop) : DTS := (cSeq (cDrop (cCallX [] S_need_leans EX (cCons (cVar 0) (cCons (cVar 1) cNil)))) (cSeq (cDrop (cCallX [] S_need_leans EX (cCons (cVar 0) (cCons (cVar 2) cNil)))) (cRet (cFrz (cLstZ (cCons (cFrz (cCall [] S_sums_by (cCons (cVar 0) (cCons (cVar 1) cNil)))) (cCons (cFrz (cCall [] S_sums_by (cCons (cVar 0) (cCons (cVar 2) cNil)))) cNil)))))))
theorem zip_lnsX (a b : List Int) : ∀ ps : List (List Int), zip2D ((ps.map fun p => dotS p a).map .int) ((ps.map fun p => dotS p b).map .int) = (lnOf ps a b).map lnD
  | [] => rfl
  | p :: ps => by
    have := zip_lnsX a b ps
    unfold lnOf at this ⊢
    rw [List.map_cons, List.map_cons, List.map_cons, List.map_cons, List.map_cons, List.map_cons, ← this]
    rfl
theorem r_lines_of : ∀ ds Q0 E0, S_lines_of ds Q0 E0 → t_lines_of E0 (dEnds Q0) (ds ++ List.replicate (N_lines_of.length - 3) .gone) := by
  rintro ds Q0 E0 ⟨m, ps, a, b, hp, hf, ha, hb, rfl, h⟩
  simp only [N_lines_of, List.length_cons, List.length_nil, List.cons_append, List.nil_append, Nat.reduceAdd, Nat.reduceSub, Nat.zero_add, List.replicate_succ, List.replicate_zero]; unfold t_lines_of
  o_attr
  refine ⟨m, _, a, ha, rfl, ?_⟩
  rcases h with ⟨la, lb, q⟩ | ⟨la, q⟩ | ⟨la, lb, q⟩
  · refine .inl ⟨la, fun ds' => ?_⟩
    o_attr
    refine ⟨m, _, b, hb, rfl, .inl ⟨lb, fun ds' => ?_⟩⟩
    o_attr
    refine ⟨m, ps, a, hp, hf, rfl, fun ds' => ?_⟩
    o_attr
    refine ⟨m, ps, b, hp, hf, rfl, fun ds' => ?_⟩
    o_attr
    refine s_lstZK rfl rfl (by simp) ?_
    rw [zip_lnsX]
    o_attr
    exact q _
  · refine .inr ⟨la, fun ds' => ?_⟩
    o_attr
    exact q _
  · refine .inl ⟨la, fun ds' => ?_⟩
    o_attr
    refine ⟨m, _, b, hb, rfl, .inr ⟨lb, fun ds' => ?_⟩⟩
    o_attr
    exact q _
/-! way_of -/
--I X26 X25
def S_way_of : VSp := fun ds Q E => ∃ (m : Nat) (ps : List (List Int)) (a b : List Int), Pts ps ∧ (∀ p ∈ ps, ∀ x ∈ p, FarI x) ∧ a.length ≤ 1000 ∧ b.length ≤ 1000 ∧ ds = [.fr (.tuple [.int (m : Nat), pts ps]), .fr (pt a), .fr (pt b)] ∧ ((leansB m a = true ∧ leansB m b = true ∧ (∀ l ∈ lnOf ps a b, LB l) ∧ ∀ ds', (∀ t ∈ brks (lnOf ps a b), FB t) → Q (.fr (wayD (lnOf ps a b))) ds') ∨ ((leansB m a && leansB m b) = false ∧ ∀ ds', E ⟨"NoWeights", none⟩ ds'))
theorem len_way_of : ∀ ds Q E, S_way_of ds Q E → ds.length = 3 := by rintro _ _ _ ⟨_, _, _, _, _, _, _, _, rfl, _⟩; rfl
abbrev N_way_of : List Str := ["book", "one", "other", "lines", "breaks"]
def t_way_of (EX : Xn → List Vl → Prop) : DTS := (cSeq (cAsg (cFrz (cCallX [] S_lines_of EX (cCons (cVar 0) (cCons (cVar 1) (cCons (cVar 2) cNil))))) (gNm 3)) (cSeq (cAsg (cFrz (cCall [] S_breaks_of (cCons (cVar 3) cNil))) (gNm 4)) (cRet (cTup (cCons (cVar 4) (cCons (cFrz (cCall [] S_bests_between (cCons (cVar 3) (cCons (cVar 4) cNil)))) cNil))))))
theorem r_way_of : ∀ ds Q0 E0, S_way_of ds Q0 E0 → t_way_of E0 (dEnds Q0) (ds ++ List.replicate (N_way_of.length - 3) .gone) := by
  rintro ds Q0 E0 ⟨m, ps, a, b, hp, hf, ha, hb, rfl, h⟩
  have hl : (lnOf ps a b).length = ps.length := List.length_map _
  have hbl : (brks (lnOf ps a b)).length ≤ (lnOf ps a b).length := wrun_lenW _ _ _ _
  have hP := hp.1
  simp only [N_way_of, List.length_cons, List.length_nil, List.cons_append, List.nil_append, Nat.reduceAdd, Nat.reduceSub, Nat.zero_add, List.replicate_succ, List.replicate_zero]; unfold t_way_of
  o_attr
  refine ⟨m, ps, a, b, hp, hf, ha, hb, rfl, ?_⟩
  rcases h with ⟨la, lb, hB, q⟩ | ⟨hab, q⟩
  · refine .inl ⟨la, lb, fun ds' => ?_⟩
    o_attr
    o_args
    o_attr
    refine ⟨lnOf ps a b, by omega, hB, rfl, fun ds' hT => ?_⟩
    o_attr
    o_args
    o_attr
    refine ⟨lnOf ps a b, brks (lnOf ps a b), by omega, by omega, hB, rfl, fun ds' => ?_⟩
    o_attr
    exact q _ hT
  · refine .inr ?_
    cases la : leansB m a with
    | false =>
      refine .inl ⟨rfl, fun ds' => ?_⟩
      o_attr
      exact q _
    | true =>
      rw [la, Bool.true_and] at hab
      refine .inr ⟨rfl, hab, fun ds' => ?_⟩
      o_attr
      exact q _
/-! is_inner -/
--I X30
def S_is_inner : VSp := fun ds Q _ => ∃ (t : Ln), FW t ∧ ds = [.fr (lnD t)] ∧ ∀ ds', Q (.fr (.bool (inB t))) ds'
theorem len_is_inner : ∀ ds Q E, S_is_inner ds Q E → ds.length = 1 := by rintro _ _ _ ⟨_, _, rfl, _⟩; rfl
abbrev N_is_inner : List Str := ["thing"]
def t_is_inner : DTS := (cRet (cFrz (cAndV (cCh kltb kltb (cK (.fr (.int 0))) (c2 gIx (cVar 0) (cK (.fr (.int 0)))) (c2 gIx (cVar 0) (cK (.fr (.int 1))))) (c2 (gEq false) (cCall [] S_lowest (cCons (c2 gIx (cVar 0) (cK (.fr (.int 0)))) (cCons (c2 gIx (cVar 0) (cK (.fr (.int 1)))) cNil))) (cVar 0)))))
theorem r_is_inner : ∀ ds Q0 E0, S_is_inner ds Q0 E0 → t_is_inner (dEnds Q0) (ds ++ List.replicate (N_is_inner.length - 1) .gone) := by
  rintro ds Q0 E0 ⟨t, ⟨h1, h2⟩, rfl, q⟩
  rw [show lnD t = .tuple [.int t.1, .int t.2] from rfl]
  have h2' := FW.k h2
  unfold inB at q
  simp only [N_is_inner, List.length_cons, List.length_nil, List.cons_append, List.nil_append, Nat.reduceAdd, Nat.reduceSub, Nat.zero_add, List.replicate_succ, List.replicate_zero]; unfold t_is_inner
  o_attr
  · rename_i c1
    have c2 := h
    refine ⟨t.1, t.2, by omega, h2', rfl, fun ds' => ?_⟩
    o_attr
    rw [show PyData.eqv (.tuple [.int (lowN t.1 t.2), .int (lowD t.1 t.2)]) (.tuple [.int t.1, .int t.2]) = decide (([lowN t.1 t.2, lowD t.1 t.2] : List Int) = [t.1, t.2]) from eqv_pt [lowN t.1 t.2, lowD t.1 t.2] [t.1, t.2], low_is c1 (by omega)]
    rw [decide_eq_true c1, decide_eq_true c2] at q
    exact q _
  · rename_i c1
    have c2 := h
    rw [decide_eq_false c2, Bool.and_false, Bool.false_and] at q
    exact q _
  · have c1 := h
    rw [decide_eq_false c1, Bool.false_and, Bool.false_and] at q
    exact q _
/-! way_right -/
--I X30 X25
def S_way_right : VSp := fun ds Q E => ∃ (m : Nat) (ps : List (List Int)) (a b : List Int) (T : List Ln) (B : List (List Int)), Pts ps ∧ (∀ p ∈ ps, ∀ x ∈ p, FarI x) ∧ a.length ≤ 1000 ∧ b.length ≤ 1000 ∧ T.length ≤ 1000 ∧ (∀ t ∈ T, FX t) ∧ B.length ≤ 5000 ∧ ds = [.fr (.tuple [.int (m : Nat), pts ps]), .fr (pt a), .fr (pt b), .fr (.tuple [.tuple (T.map lnD), pts B])] ∧ ((leansB m a = true ∧ leansB m b = true ∧ (∀ l ∈ lnOf ps a b, LB l) ∧ ∀ ds', Q (.fr (.bool (wR (lnOf ps a b) T B))) ds') ∨ ((leansB m a && leansB m b) = false ∧ ∀ ds', E ⟨"NoWeights", none⟩ ds'))
theorem len_way_right : ∀ ds Q E, S_way_right ds Q E → ds.length = 4 := by rintro _ _ _ ⟨_, _, _, _, _, _, _, _, _, _, _, _, _, rfl, _⟩; rfl
abbrev N_way_right : List Str := ["book", "one", "other", "thing", "lines", "breaks", "bests", "at", "ahead", "behind"]
def t_way_right (EX : Xn → List Vl → Prop) : DTS := (cSeq (cAsg (cFrz (cCallX [] S_lines_of EX (cCons (cVar 0) (cCons (cVar 1) (cCons (cVar 2) cNil))))) (gNm 4)) (cSeq (cAsg (cVar 3) (gTu 2 (gsCons (gNm 5) (gsCons (gNm 6) gsNil)))) (cSeq (cIfS (cOr (cNot (cTst (cFn (g1 (gBools kAll)) (cCons (cLc [] [7] (cSeqI (cVar 5)) (gNm 7) cYes (cFrz (cCall [] S_is_inner (cCons (cVar 7) cNil)))) cNil)))) (cTst (c2 (gEq false) (cVar 6) (cTup cNil)))) (cRet (cK (.fr (.bool false)))) cNext) (cSeq (cIfS (cNot (cTst (cFn (g1 (gBools kAll)) (cCons (cLc [] [8, 9] (cZip2 (cCons (cVar 5) (cCons (cFrz (cSl (cVar 5) (cPt (cK (.fr (.int 1)))) cNoP)) cNil))) (gTu 2 (gsCons (gNm 8) (gsCons (gNm 9) gsNil))) cYes (cFrz (cCall [] S_is_ahead (cCons (cVar 8) (cCons (cVar 9) cNil))))) cNil)))) (cRet (cK (.fr (.bool false)))) cNext) (cSeq (cIfS (cOr (cTst (c2 (gEq true) (cFn (g1 gLen) (cCons (cVar 6) cNil)) (c2 gAdd (cFn (g1 gLen) (cCons (cVar 5) cNil)) (cK (.fr (.int 1)))))) (cTst (c2 (gEq true) (cVar 6) (cCall [] S_bests_between (cCons (cVar 4) (cCons (cVar 5) cNil)))))) (cRet (cK (.fr (.bool false)))) cNext) (cSeq (cIfS (cAnd (cTst (c2 (gIn false) (cTup cNil) (cVar 6))) (cTst (c2 (gEq true) (cVar 4) (cLst cNil)))) (cRet (cK (.fr (.bool false)))) cNext) (cRet (cFn (g1 (gBools kAll)) (cCons (cLc [] [8, 9] (cZip2 (cCons (cVar 6) (cCons (cFrz (cSl (cVar 6) (cPt (cK (.fr (.int 1)))) cNoP)) cNil))) (gTu 2 (gsCons (gNm 8) (gsCons (gNm 9) gsNil))) cYes (c2 (gEq true) (cVar 8) (cVar 9))) cNil)))))))))
theorem zip_lnRX : ∀ a b : List Ln, zip2D (a.map lnD) (b.map lnD) = (a.zip b).map fun p => .tuple [lnD p.1, lnD p.2]
  | [], _ => rfl
  | x :: a, [] => rfl
  | x :: a, y :: b => by
    rw [List.zip_cons_cons, List.map_cons, List.map_cons, List.map_cons, ← zip_lnRX a b]
    rfl
theorem zip_btRX : ∀ as bs : List (List Int), zip2D (as.map pt) (bs.map pt) = (as.zip bs).map fun p => .tuple [pt p.1, pt p.2]
  | [], _ => rfl
  | a :: as, [] => rfl
  | a :: as, b :: bs => by
    rw [List.zip_cons_cons, List.map_cons, List.map_cons, List.map_cons, ← zip_btRX as bs]
    rfl
theorem any_ptRX (B : List (List Int)) (x : List Int) : ((B.map pt).any fun z => PyData.eqv z (pt x)) = decide (x ∈ B) := by
  rw [Bool.eq_iff_iff, List.any_map, List.any_eq_true, decide_eq_true_eq]
  constructor
  · rintro ⟨y, hy, e⟩
    have e : PyData.eqv (pt y) (pt x) = true := e
    rw [eqv_pt, decide_eq_true_eq] at e
    rw [← e]; exact hy
  · intro h
    exact ⟨x, h, by show PyData.eqv (pt x) (pt x) = true; rw [eqv_pt, decide_eq_true_eq]⟩
theorem r_way_right : ∀ ds Q0 E0, S_way_right ds Q0 E0 → t_way_right E0 (dEnds Q0) (ds ++ List.replicate (N_way_right.length - 4) .gone) := by
  rintro ds Q0 E0 ⟨m, ps, a, b, T, B, hp, hf, ha, hb, hT, hTF, hBl, rfl, hh⟩
  have hll : (lnOf ps a b).length = ps.length := List.length_map _
  have hP := hp.1
  have hTm : (T.map lnD).length = T.length := List.length_map _
  have hBm : (B.map pt).length = B.length := List.length_map _
  obtain ⟨L, eL⟩ : ∃ L, lnOf ps a b = L := ⟨_, rfl⟩
  simp only [N_way_right, List.length_cons, List.length_nil, List.cons_append, List.nil_append, Nat.reduceAdd, Nat.reduceSub, Nat.zero_add, List.replicate_succ, List.replicate_zero]; unfold t_way_right
  o_attr
  refine ⟨m, ps, a, b, hp, hf, ha, hb, rfl, ?_⟩
  rcases hh with ⟨la, lb, hB, q⟩ | ⟨hab, q⟩
  rotate_left
  · refine .inr ?_
    cases la : leansB m a with
    | false =>
      refine .inl ⟨rfl, fun ds' => ?_⟩
      o_attr
      exact q _
    | true =>
      rw [la, Bool.true_and] at hab
      refine .inr ⟨rfl, hab, fun ds' => ?_⟩
      o_attr
      exact q _
  refine .inl ⟨la, lb, fun ds' => ?_⟩
  rw [eL] at hB hll q ⊢
  o_attr
  o_args
  o_attr
  o_args
  with_reducible refine s_gsc ?_
  o_args
  with_reducible refine s_gsn ?_
  o_attr
  apply s_lcMap T lnD (fun t => some (.bool (inB t))) rfl; (· (first | (simp only [wipeD, List.set_cons_zero, List.set_cons_succ]; done) | (simp only [wipeD, List.set_cons_zero, List.set_cons_succ]; rfl))); (· (first | (simp only [rst, List.set_cons_zero, List.set_cons_succ, Option.getD_some, List.getElem?_cons_zero, List.getElem?_cons_succ]; done) | (simp only [rst, List.set_cons_zero, List.set_cons_succ, Option.getD_some, List.getElem?_cons_zero, List.getElem?_cons_succ]; rfl)))
  · trivial
  · exact small (k := 1000) hT
  · intro t ht K hK
    o_norm
    refine ⟨t, (hTF t ht).w, rfl, fun ds' => ?_⟩
    o_attr
    exact hK
  o_attr
  refine s_bools (T.map inB) rfl (by rw [fmap_some, List.map_map]; rfl) ?_
  rw [show kAll (T.map inB) = T.all inB from all_of _ _]
  o_attr
  refine s_br (fun hA => ?_) (fun hA => ?_)
  rotate_left
  · o_attr
    rw [show wR L T B = false by unfold wR; rw [hA]; rfl] at q
    exact q _
  o_attr
  rw [eqv_pts0]
  refine s_brD (fun h0 => ?_) (fun h0 => ?_)
  · o_attr
    rw [show wR L T B = false by unfold wR; rw [h0, show decide (([] : List (List Int)).length = T.length + 1) = false from decide_eq_false (by rw [List.length_nil]; omega), Bool.and_false]; rfl] at q
    exact q _
  o_attr
  rw [show cut (T.map lnD) (some 1) none = (T.drop 1).map lnD by rw [show ((1 : Int)) = ((1 : Nat) : Int) from rfl, cut_drop, List.map_drop]]
  apply s_lcMap (T.zip (T.drop 1)) (fun p => .tuple [lnD p.1, lnD p.2]) (fun p => some (PyData.bool (decide (p.1.1 * p.2.2 < p.2.1 * p.1.2)))) (zip_lnRX T (T.drop 1)); (· (first | (simp only [wipeD, List.set_cons_zero, List.set_cons_succ]; done) | (simp only [wipeD, List.set_cons_zero, List.set_cons_succ]; rfl))); (· (first | (simp only [rst, List.set_cons_zero, List.set_cons_succ, Option.getD_some, List.getElem?_cons_zero, List.getElem?_cons_succ]; done) | (simp only [rst, List.set_cons_zero, List.set_cons_succ, Option.getD_some, List.getElem?_cons_zero, List.getElem?_cons_succ]; rfl)))
  · exact ⟨rfl, rfl⟩
  · rw [List.length_zip]; exact small (k := 2000) (by omega)
  · rintro ⟨u, v⟩ hp K hK
    have hu := hTF u (List.of_mem_zip hp).1
    have hv := hTF v (List.mem_of_mem_drop (List.of_mem_zip hp).2)
    o_norm
    refine ⟨u, v, hu.w, hv.w, rfl, fun ds' => ?_⟩
    o_attr
    exact hK
  rw [fmap_some]
  o_attr
  refine s_bools ((T.zip (T.drop 1)).map fun p => decide (p.1.1 * p.2.2 < p.2.1 * p.1.2)) rfl (by rw [List.map_map]; rfl) ?_
  rw [show kAll ((T.zip (T.drop 1)).map fun p => decide (p.1.1 * p.2.2 < p.2.1 * p.1.2)) = adjT T from all_of _ _]
  o_attr
  refine s_br (fun hJ => ?_) (fun hJ => ?_)
  rotate_left
  · o_attr
    rw [show wR L T B = false by unfold wR; rw [hA, hJ]; rfl] at q
    exact q _
  o_attr
  rotate_left
  · rw [hTm, hBm] at h
    rw [show wR L T B = false by unfold wR; rw [hA, hJ, show decide (B.length = T.length + 1) = false from decide_eq_false (by omega)]; rfl] at q
    exact q _
  rw [hTm, hBm] at h
  have hBT : decide (B.length = T.length + 1) = true := decide_eq_true (by omega)
  refine ⟨L, T, by omega, hT, hB, rfl, fun ds' => ?_⟩
  o_attr
  rw [eqv_pts]
  refine s_br (fun hE => ?_) (fun hE => ?_)
  rotate_left
  · o_attr
    rw [show wR L T B = false by unfold wR; rw [hA, hJ, hBT, hE]; rfl] at q
    exact q _
  o_attr
  refine s_inT rfl rfl rfl (by rw [List.all_map]; exact List.all_eq_true.mpr fun x _ => dep_pt60 x) ?_
  rw [show ((B.map pt).any fun z => PyData.eqv z (.tuple [])) = decide ([] ∈ B) from any_ptRX B []]
  have hN : ∀ h5 : (decide ([] ∈ B) && decide (L ≠ [])) = false, wR L T B = adjB B := fun h5 => by
    unfold wR
    rw [hA, hJ, hBT, hE, h5]; rfl
  o_attr
  · refine s_ne rfl rfl (dep_lnl _) rfl ?_
    rw [eqv_lnl0]
    refine s_brEq rfl ?_
    refine s_br (fun h6 => ?_) (fun h6 => ?_)
    · rw [Bool.not_eq_true', decide_eq_false_iff_not] at h6
      o_attr
      rw [show wR L T B = false by unfold wR; rw [hA, hJ, hBT, hE, decide_eq_true h, decide_eq_true h6]; rfl] at q
      exact q _
    · rw [Bool.not_eq_false', decide_eq_true_eq] at h6
      rw [hN (by rw [show decide (L ≠ []) = false from decide_eq_false (fun z => z h6), Bool.and_false])] at q
      o_attr
      rw [show cut (B.map pt) (some 1) none = (B.drop 1).map pt by rw [show ((1 : Int)) = ((1 : Nat) : Int) from rfl, cut_drop, List.map_drop]]
      apply s_lcMap (B.zip (B.drop 1)) (fun p => .tuple [pt p.1, pt p.2]) (fun p => some (PyData.bool (!decide (p.1 = p.2)))) (zip_btRX B (B.drop 1)); (· (first | (simp only [wipeD, List.set_cons_zero, List.set_cons_succ]; done) | (simp only [wipeD, List.set_cons_zero, List.set_cons_succ]; rfl))); (· (first | (simp only [rst, List.set_cons_zero, List.set_cons_succ, Option.getD_some, List.getElem?_cons_zero, List.getElem?_cons_succ]; done) | (simp only [rst, List.set_cons_zero, List.set_cons_succ, Option.getD_some, List.getElem?_cons_zero, List.getElem?_cons_succ]; rfl)))
      · exact ⟨rfl, rfl⟩
      · rw [List.length_zip]; exact small (k := 5000) (by omega)
      · rintro ⟨x, y⟩ hp K hK
        o_norm
        rw [eqv_pt]
        exact hK
      rw [fmap_some]
      o_attr
      refine s_bools ((B.zip (B.drop 1)).map fun p => !decide (p.1 = p.2)) rfl (by rw [List.map_map]; rfl) ?_
      rw [show kAll ((B.zip (B.drop 1)).map fun p => !decide (p.1 = p.2)) = adjB B from all_of _ _]
      o_attr
      exact q _
  · rw [hN (by rw [decide_eq_false h]; rfl)] at q
    rw [show cut (B.map pt) (some 1) none = (B.drop 1).map pt by rw [show ((1 : Int)) = ((1 : Nat) : Int) from rfl, cut_drop, List.map_drop]]
    apply s_lcMap (B.zip (B.drop 1)) (fun p => .tuple [pt p.1, pt p.2]) (fun p => some (PyData.bool (!decide (p.1 = p.2)))) (zip_btRX B (B.drop 1)); (· (first | (simp only [wipeD, List.set_cons_zero, List.set_cons_succ]; done) | (simp only [wipeD, List.set_cons_zero, List.set_cons_succ]; rfl))); (· (first | (simp only [rst, List.set_cons_zero, List.set_cons_succ, Option.getD_some, List.getElem?_cons_zero, List.getElem?_cons_succ]; done) | (simp only [rst, List.set_cons_zero, List.set_cons_succ, Option.getD_some, List.getElem?_cons_zero, List.getElem?_cons_succ]; rfl)))
    · exact ⟨rfl, rfl⟩
    · rw [List.length_zip]; exact small (k := 5000) (by omega)
    · rintro ⟨x, y⟩ hp K hK
      o_norm
      rw [eqv_pt]
      exact hK
    rw [fmap_some]
    o_attr
    refine s_bools ((B.zip (B.drop 1)).map fun p => !decide (p.1 = p.2)) rfl (by rw [List.map_map]; rfl) ?_
    rw [show kAll ((B.zip (B.drop 1)).map fun p => !decide (p.1 = p.2)) = adjB B from all_of _ _]
    o_attr
    exact q _
/-! whole_at -/
--I X21
def whO (m : Int) (t : Ln) : PyData := if m * t.1 % t.2 = 0 then .int (m * t.1 / t.2) else .none
def S_whole_at : VSp := fun ds Q _ => ∃ (m : Int) (t : Ln), 0 ≤ m ∧ m ≤ 10 ^ 12 ∧ FB t ∧ ds = [.fr (.int m), .fr (lnD t)] ∧ ∀ ds', Q (.fr (whO m t)) ds'
theorem len_whole_at : ∀ ds Q E, S_whole_at ds Q E → ds.length = 2 := by rintro _ _ _ ⟨_, _, _, _, _, rfl, _⟩; rfl
abbrev N_whole_at : List Str := ["many", "at"]
def t_whole_at : DTS := (cRet (cFrz (cIf (cTst (c2 (gEq false) (c2 kMod (c2 kMul (cVar 0) (c2 gIx (cVar 1) (cK (.fr (.int 0))))) (c2 gIx (cVar 1) (cK (.fr (.int 1))))) (cK (.fr (.int 0))))) (c2 kFdiv (c2 kMul (cVar 0) (c2 gIx (cVar 1) (cK (.fr (.int 0))))) (c2 gIx (cVar 1) (cK (.fr (.int 1))))) (cK (.fr .none)))))
theorem r_whole_at : ∀ ds Q0 E0, S_whole_at ds Q0 E0 → t_whole_at (dEnds Q0) (ds ++ List.replicate (N_whole_at.length - 2) .gone) := by
  rintro ds Q0 E0 ⟨m, t, m0, m1, ⟨t1, t2, t3, t4⟩, rfl, q⟩
  rw [show lnD t = .tuple [.int t.1, .int t.2] from rfl]
  unfold whO at q
  simp only [N_whole_at, List.length_cons, List.length_nil, List.cons_append, List.nil_append, Nat.reduceAdd, Nat.reduceSub, Nat.zero_add, List.replicate_succ, List.replicate_zero]; unfold t_whole_at
  o_attr
  · rw [if_pos (by assumption)] at q
    exact q _
  · rw [if_neg (by assumption)] at q
    exact q _
/-! many_amid -/
--I X21
def amid (m : Int) (s t : Ln) : Int := (m * t.1 - 1) / t.2 - m * s.1 / s.2
def S_many_amid : VSp := fun ds Q _ => ∃ (m : Int) (s t : Ln), 0 ≤ m ∧ m ≤ 10 ^ 12 ∧ FB s ∧ FB t ∧ ds = [.fr (.int m), .fr (lnD s), .fr (lnD t)] ∧ ∀ ds', Q (.fr (.int (amid m s t))) ds'
theorem len_many_amid : ∀ ds Q E, S_many_amid ds Q E → ds.length = 3 := by rintro _ _ _ ⟨_, _, _, _, _, _, _, rfl, _⟩; rfl
abbrev N_many_amid : List Str := ["many", "ahead", "behind"]
def t_many_amid : DTS := (cRet (c2 kSub (c2 kFdiv (c2 kSub (c2 kMul (cVar 0) (c2 gIx (cVar 2) (cK (.fr (.int 0))))) (cK (.fr (.int 1)))) (c2 gIx (cVar 2) (cK (.fr (.int 1))))) (c2 kFdiv (c2 kMul (cVar 0) (c2 gIx (cVar 1) (cK (.fr (.int 0))))) (c2 gIx (cVar 1) (cK (.fr (.int 1)))))))
theorem r_many_amid : ∀ ds Q0 E0, S_many_amid ds Q0 E0 → t_many_amid (dEnds Q0) (ds ++ List.replicate (N_many_amid.length - 3) .gone) := by
  rintro ds Q0 E0 ⟨m, s, t, m0, m1, ⟨s1, s2, s3, s4⟩, ⟨t1, t2, t3, t4⟩, rfl, q⟩
  rw [show lnD t = .tuple [.int t.1, .int t.2] from rfl, show lnD s = .tuple [.int s.1, .int s.2] from rfl]
  unfold amid at q
  simp only [N_many_amid, List.length_cons, List.length_nil, List.cons_append, List.nil_append, Nat.reduceAdd, Nat.reduceSub, Nat.zero_add, List.replicate_succ, List.replicate_zero]; unfold t_many_amid
  o_attr
  exact q _
/-! shares -/
--I X22
def S_shares : VSp := fun ds Q E => (∃ (m : Nat) (xs : List (Int × Int)), xs.length ≤ 900 ∧ 1 ≤ m ∧ m ≤ 10 ^ 12 ∧ (∀ x ∈ xs, FarI x.1 ∧ FarI x.2) ∧ ds = [.fr (.tuple [.int 2, pts (xs.map ptX)]), .fr (.int (m : Nat))] ∧ ∀ ds', Q (.fr (pt ((List.range xs.length).map fun i => cntW (xs.map lnX) m i))) ds') ∨ (∃ (M : Nat) (ps : List (List Int)) (y : PyData), M ≠ 2 ∧ ds = [.fr (.tuple [.int (M : Nat), pts ps]), .fr y] ∧ ∀ ds', E ⟨"NoMeasures", none⟩ ds') ∨ (∃ (ps : List (List Int)) (k : Int), (k < 1 ∨ 10 ^ 12 < k) ∧ ds = [.fr (.tuple [.int 2, pts ps]), .fr (.int k)] ∧ ∀ ds', E ⟨"NoNumber", none⟩ ds')
theorem len_shares : ∀ ds Q E, S_shares ds Q E → ds.length = 2 := by rintro _ _ _ (⟨_, _, _, _, _, _, rfl, _⟩ | ⟨_, _, _, _, rfl, _⟩ | ⟨_, _, _, rfl, _⟩) <;> rfl
abbrev N_shares : List Str := ["book", "many", "found", "lines", "breaks", "ends", "at", "best", "ahead", "behind", "point"]
def t_shares (EX : Xn → List Vl → Prop) : DTS := (cSeq (cIfS (cTst (c2 (gEq true) (c2 gIx (cVar 0) (cK (.fr (.int 0)))) (cK (.fr (.int 2))))) (cRaise "NoMeasures" EX) cNext) (cSeq (cIfS (cNot (cTst (cCh kleb kleb (cK (.fr (.int 1))) (cVar 1) (cK (.fr (.int 1000000000000)))))) (cRaise "NoNumber" EX) cNext) (cSeq (cAsg (c2 gRepA (cLst (cCons (cK (.fr (.int 0))) cNil)) (cFn (g1 gLen) (cCons (c2 gIx (cVar 0) (cK (.fr (.int 1)))) cNil))) (gNm 2)) (cSeq (cAsg (cFrz (cLc [] [10] (cSeqI (c2 gIx (cVar 0) (cK (.fr (.int 1))))) (gNm 10) cYes (cTup (cCons (c2 gIx (cVar 10) (cK (.fr (.int 1)))) (cCons (c2 gIx (cVar 10) (cK (.fr (.int 0)))) cNil))))) (gNm 3)) (cSeq (cAsg (cFrz (cCall [] S_breaks_of (cCons (cVar 3) cNil))) (gNm 4)) (cSeq (cAsg (c2 gAdd (c2 gAdd (cTup (cCons (cK (.fr (.tuple [.int 0, .int 1]))) cNil)) (cVar 4)) (cTup (cCons (cK (.fr (.tuple [.int 1, .int 1]))) cNil))) (gNm 5)) (cSeq (cFor [] (cSeqI (cVar 5)) (gNm 6) (cIfS (cAnd (cTst (c2 (gEq true) (cVar 3) (cLst cNil))) (cTst (c2 (gIsN true) (cCall [] S_whole_at (cCons (cVar 1) (cCons (cVar 6) cNil))) (cK (.fr .none))))) (cAugS (cVar 2) (c2 gIx (cCall [] S_greatest_in (cCons (cFrz (cCall [] S_worths_at (cCons (cVar 3) (cCons (cVar 6) cNil)))) cNil)) (cK (.fr (.int 0)))) (cK (.fr (.int 1)))) cNext)) (cSeq (cFor [] (cZip3 (cCons (cFrz (cCall [] S_bests_between (cCons (cVar 3) (cCons (cVar 4) cNil)))) (cCons (cVar 5) (cCons (cFrz (cSl (cVar 5) (cPt (cK (.fr (.int 1)))) cNoP)) cNil)))) (gTu 3 (gsCons (gNm 7) (gsCons (gNm 8) (gsCons (gNm 9) gsNil)))) (cIfS (cTst (c2 (gEq true) (cVar 3) (cLst cNil))) (cAugS (cVar 2) (c2 gIx (cVar 7) (cK (.fr (.int 0)))) (cCall [] S_many_amid (cCons (cVar 1) (cCons (cVar 8) (cCons (cVar 9) cNil))))) cNext)) (cRet (cFn (g1 gTpl) (cCons (cVar 2) cNil)))))))))))
theorem wrun_lenX (stee : List Ln → Ln → Ln) (L : List Ln) : ∀ n h, (wrun stee L n h).length ≤ n
  | 0, _ => Nat.le_refl _
  | n + 1, h => by
    unfold wrun
    cases brk L h with
    | none => exact Nat.zero_le _
    | some t => exact Nat.succ_le_succ (wrun_lenX stee L n _)
theorem set_getDX {xs : List Int} {j i : Nat} {v : Int} (h : j < xs.length) : (xs.set j v).getD i 0 = if i = j then v else xs.getD i 0 := by
  rw [List.getD_eq_getElem?_getD, List.getD_eq_getElem?_getD, List.getElem?_set]
  by_cases e : j = i
  · subst e
    rw [if_pos rfl, if_pos h, if_pos rfl]; rfl
  · rw [if_neg e, if_neg (fun z => e z.symm)]
theorem head_atX {b : List Int} (h : b ≠ []) : atI (b.map PyData.int) 0 = some (.int (b.getD 0 0)) := by
  cases b with
  | nil => exact absurd rfl h
  | cons x b => exact atI_0 _ _
theorem head_memX {b : List Int} (h : b ≠ []) : b.getD 0 0 ∈ b := by
  cases b with
  | nil => exact absurd rfl h
  | cons x b => exact List.mem_cons_self
theorem dep_lnsX (L : List Ln) : dep 60 (.list (L.map lnD)) = true := by
  simp only [dep]
  rw [List.all_map]
  exact List.all_eq_true.mpr fun p _ => rfl
theorem r_shares : ∀ ds Q0 E0, S_shares ds Q0 E0 → t_shares E0 (dEnds Q0) (ds ++ List.replicate (N_shares.length - 2) .gone) := by
  rintro ds Q0 E0 (⟨m, xs, hxs, hm0, hm1, hf, rfl, q⟩ | ⟨M, ps, y, hM, rfl, q⟩ | ⟨ps, k, hk, rfl, q⟩)
  rotate_left
  · simp only [N_shares, List.length_cons, List.length_nil, List.cons_append, List.nil_append, Nat.reduceAdd, Nat.reduceSub, Nat.zero_add, List.replicate_succ, List.replicate_zero]; unfold t_shares
    o_attr
    · exact absurd (show M = 2 by omega) hM
    · exact q _
  · simp only [N_shares, List.length_cons, List.length_nil, List.cons_append, List.nil_append, Nat.reduceAdd, Nat.reduceSub, Nat.zero_add, List.replicate_succ, List.replicate_zero]; unfold t_shares
    o_attr
    all_goals first | exact q _ | exact absurd rfl ‹¬ _› | skip
    all_goals omega
  have hpl : ((xs.map ptX).map pt).length = xs.length := by rw [List.length_map, List.length_map]
  obtain ⟨L, eL⟩ : ∃ L, xs.map lnX = L := ⟨_, rfl⟩
  have hLl : L.length = xs.length := by rw [← eL, List.length_map]
  have hb : ∀ l ∈ L, LB l := fun l hl => by
    rw [← eL] at hl
    obtain ⟨x, hx, rfl⟩ := List.mem_map.mp hl
    obtain ⟨⟨a, b⟩, c, d⟩ := hf x hx
    exact ⟨show -(4 * 10 ^ 18) ≤ x.2 by omega, show x.2 ≤ 4 * 10 ^ 18 by omega, show -(4 * 10 ^ 18) ≤ x.1 by omega, show x.1 ≤ 4 * 10 ^ 18 by omega⟩
  have hbl : (brks L).length ≤ L.length := wrun_lenX _ _ _ _
  rw [eL] at q
  simp only [N_shares, List.length_cons, List.length_nil, List.cons_append, List.nil_append, Nat.reduceAdd, Nat.reduceSub, Nat.zero_add, List.replicate_succ, List.replicate_zero]; unfold t_shares
  o_attr
  rw [hpl]
  refine s_repL1 (by omega) ?_
  o_args
  o_attr
  apply s_lcMap (xs.map ptX) pt (fun p => some (lnD (p.getD 1 0, p.getD 0 0))) rfl; (· (first | (simp only [wipeD, List.set_cons_zero, List.set_cons_succ]; done) | (simp only [wipeD, List.set_cons_zero, List.set_cons_succ]; rfl))); (· (first | (simp only [rst, List.set_cons_zero, List.set_cons_succ, Option.getD_some, List.getElem?_cons_zero, List.getElem?_cons_succ]; done) | (simp only [rst, List.set_cons_zero, List.set_cons_succ, Option.getD_some, List.getElem?_cons_zero, List.getElem?_cons_succ]; rfl)))
  · trivial
  · rw [List.length_map]; exact small (k := 900) hxs
  · intro p hp K hK
    obtain ⟨x, _, rfl⟩ := List.mem_map.mp hp
    rw [show pt (ptX x) = .tuple [.int x.1, .int x.2] from rfl]
    o_norm
    exact hK
  rw [fmap_some, show ((xs.map ptX).map fun p => lnD (p.getD 1 0, p.getD 0 0)) = L.map lnD by rw [← eL, List.map_map, List.map_map]; rfl]
  o_attr
  o_args
  o_attr
  refine ⟨L, by omega, hb, rfl, fun ds' hT => ?_⟩
  have hTm : ((brks L).map lnD).length = (brks L).length := List.length_map _
  o_attr
  o_args
  o_attr
  obtain ⟨E, eE⟩ : ∃ E, (0, 1) :: brks L ++ [(1, 1)] = E := ⟨_, rfl⟩
  have hE : ∀ t ∈ E, FB t := fun t h => by
    rw [← eE] at h
    have z1 : FB (0, 1) := by unfold FB; decide
    have z2 : FB (1, 1) := by unfold FB; decide
    rcases List.mem_append.mp h with h | h
    · rcases List.mem_cons.mp h with h | h
      · rw [h]; exact z1
      · exact hT t h
    · rw [List.mem_singleton.mp h]; exact z2
  have hEl : E.length ≤ 1002 := by rw [← eE]; simp; omega
  rw [show [PyData.tuple [.int 0, .int 1]] ++ (brks L).map lnD ++ [.tuple [.int 1, .int 1]] = E.map lnD by rw [← eE, List.map_append, List.map_cons]; rfl]
  o_args
  with_reducible refine s_seqCut (fun st => ∃ (f : List Int) (d6 : Vl), f.length = xs.length ∧ (L ≠ [] → ∀ i, i < xs.length → f.getD i 0 = (E.map (wh1 L m i)).sum) ∧ st = [.fr (.tuple [.int 2, pts (xs.map ptX)]), .fr (.int (m : Nat)), .ow (f.map .int), .fr (.list (L.map lnD)), .fr (.tuple ((brks L).map lnD)), .fr (.tuple (E.map lnD)), d6, .gone, .gone, .gone, .gone]) (fun K hK => ?_) ?_
  · o_attr
    refine s_forMap E lnD (fun l' st => ∃ (S : List Ln) (f : List Int) (d6 : Vl), E = S ++ l' ∧ f.length = xs.length ∧ (L ≠ [] → ∀ i, i < xs.length → f.getD i 0 = (S.map (wh1 L m i)).sum) ∧ st = [.fr (.tuple [.int 2, pts (xs.map ptX)]), .fr (.int (m : Nat)), .ow (f.map .int), .fr (.list (L.map lnD)), .fr (.tuple ((brks L).map lnD)), .fr (.tuple (E.map lnD)), d6, .gone, .gone, .gone, .gone]) rfl trivial ⟨[], List.replicate xs.length 0, _, rfl, List.length_replicate, fun _ i hi => ?_, by rw [List.map_replicate]⟩ ?_ ?_
    · rw [List.getD_eq_getElem?_getD, List.getElem?_replicate, if_pos hi]; rfl
    · rintro t l' st ⟨S, f, d6, hS, hf1, hf2, rfl⟩ K2 hK2
      have ht := hE t (by rw [hS]; simp)
      have hS2 : E = (S ++ [t]) ++ l' := by rw [hS]; simp
      o_norm
      refine s_ne rfl rfl (dep_lnsX L) (by rfl) ?_
      rw [eqv_nil]
      by_cases hL : L = []
      · rw [show (L.map lnD).isEmpty = true by rw [hL]; rfl]
        refine s_brEq (show (!true) = false from rfl) ?_
        o_attr
        exact hK2 _ ⟨S ++ [t], f, _, hS2, hf1, fun z => absurd hL z, rfl⟩ trivial
      · rw [show (L.map lnD).isEmpty = false by cases L with | nil => exact absurd rfl hL | cons a b => rfl]
        refine s_brEq (show (!false) = true from rfl) ?_
        o_attr
        refine ⟨m, t, by omega, by omega, ht, rfl, fun ds' => ?_⟩
        have hstep : ∀ i, ((S ++ [t]).map (wh1 L m i)).sum = (S.map (wh1 L m i)).sum + wh1 L m i t := fun i => by
          rw [List.map_append, List.sum_append, List.map_cons, List.map_nil, List.sum_cons, List.sum_nil]; omega
        by_cases c : (m : Int) * t.1 % t.2 = 0
        · rw [show whO m t = .int (m * t.1 / t.2) by unfold whO; rw [if_pos c]]
          o_attr
          refine ⟨L, t, by omega, hb, rfl, fun ds' => ?_⟩
          o_attr
          refine ⟨L.map fun l => wor l t, by rw [List.length_map]; omega, rfl, fun ds' => ?_⟩
          rw [show pt (nums (greatI (L.map fun l => wor l t))) = .tuple ((bstE L t).map .int) from rfl]
          o_attr
          refine s_ixT rfl (head_atX (bstE_ne hL ht.1)) ?_
          obtain ⟨n0, n1⟩ := bst_in _ (head_memX (bstE_ne hL ht.1))
          obtain ⟨j, ej⟩ := Int.eq_ofNat_of_zero_le n0
          rw [ej] at n1 ⊢
          have hj : j < f.length := by rw [hf1]; omega
          have hw : (bstN L t).getD 0 0 = j := by
            have : ((bstN L t).getD 0 0 : Int) = j := by rw [← getD_nums]; exact ej
            omega
          refine s_augK (f.getD j 0) rfl (by omega) (intsAt hj) ?_
          o_attr
          refine ⟨1, f.map .int, j, rfl, rfl, ixN_ok (by rw [List.length_map]; exact hj), ?_⟩
          refine hK2 _ ⟨S ++ [t], f.set j (f.getD j 0 + 1), .fr (lnD t), hS2, by rw [List.length_set]; exact hf1, fun z i hi => ?_, by rw [List.map_set]; rfl⟩ trivial
          rw [set_getDX hj, hstep]
          unfold wh1 whB
          by_cases e : i = j
          · subst e
            rw [if_pos rfl, if_pos ⟨decide_eq_true c, hw⟩, hf2 hL i hi]
            rfl
          · rw [if_neg e, if_neg (fun z => e (z.2.symm.trans hw)), hf2 hL i hi]
            unfold wh1 whB
            omega
        · rw [show whO m t = .none by unfold whO; rw [if_neg c]]
          o_attr
          refine hK2 _ ⟨S ++ [t], f, _, hS2, hf1, fun z i hi => ?_, rfl⟩ trivial
          rw [hf2 hL i hi, hstep]
          unfold wh1 whB
          rw [if_neg (fun z => c (of_decide_eq_true z.1))]
          omega
    · rintro st ⟨S, f, d6, hS, hf1, hf2, rfl⟩
      rw [List.append_nil] at hS
      o_attr
      exact hK _ ⟨f, d6, hf1, by rw [hS]; exact hf2, rfl⟩
  rintro st ⟨f, d6, hf1, hf2, rfl⟩
  o_attr
  refine ⟨L, brks L, by omega, by omega, hb, rfl, fun ds' => ?_⟩
  have hEd : ((1 : Int)) = ((1 : Nat) : Int) := rfl
  o_attr
  rw [show cut (E.map lnD) (some 1) none = (E.drop 1).map lnD by rw [show ((1 : Int)) = ((1 : Nat) : Int) from rfl, cut_drop, List.map_drop]]
  have hZ : L ≠ [] → ∀ z ∈ ZsL L (0, 1) (brks L), z.1 ≠ [] ∧ (∀ x ∈ z.1, 0 ≤ x ∧ x.toNat < L.length) ∧ FB z.2.1 ∧ FB z.2.2 := fun hL => Zs_ok (brks L) (0, 1) (hdL L) (hE _ (by rw [← eE]; simp)) hT (brks_chain hL)
  refine s_forMap (ZsL L (0, 1) (brks L)) (fun z => .tuple [pt z.1, lnD z.2.1, lnD z.2.2]) (fun l' st => ∃ (S : List (List Int × Ln × Ln)) (f : List Int) (d7 d8 d9 : Vl), ZsL L (0, 1) (brks L) = S ++ l' ∧ f.length = xs.length ∧ (L ≠ [] → ∀ i, i < xs.length → f.getD i 0 = (E.map (wh1 L m i)).sum + (S.map (stZ m i)).sum) ∧ st = [.fr (.tuple [.int 2, pts (xs.map ptX)]), .fr (.int (m : Nat)), .ow (f.map .int), .fr (.list (L.map lnD)), .fr (.tuple ((brks L).map lnD)), .fr (.tuple (E.map lnD)), d6, d7, d8, d9, .gone]) (by unfold bsts; rw [← eE]; exact Zs_zip L (brks L) (0, 1)) ⟨rfl, rfl, rfl⟩ ⟨[], f, _, _, _, rfl, hf1, fun z i hi => by rw [hf2 z i hi]; simp, rfl⟩ ?_ ?_
  · rintro ⟨B, s, t⟩ l' st ⟨S, f, d7, d8, d9, hS, hf1, hf2, rfl⟩ K2 hK2
    have hS2 : ZsL L (0, 1) (brks L) = (S ++ [(B, s, t)]) ++ l' := by rw [hS]; simp
    o_norm
    refine s_ne rfl rfl (dep_lnsX L) (by rfl) ?_
    rw [eqv_nil]
    by_cases hL : L = []
    · rw [show (L.map lnD).isEmpty = true by rw [hL]; rfl]
      refine s_brEq (show (!true) = false from rfl) ?_
      o_attr
      exact hK2 _ ⟨S ++ [(B, s, t)], f, _, _, _, hS2, hf1, fun z => absurd hL z, rfl⟩ ⟨rfl, rfl, rfl⟩
    · rw [show (L.map lnD).isEmpty = false by cases L with | nil => exact absurd rfl hL | cons a b => rfl]
      refine s_brEq (show (!false) = true from rfl) ?_
      obtain ⟨z1, z2, z3, z4⟩ := hZ hL (B, s, t) (by rw [hS]; simp)
      dsimp only at z1 z2 z3 z4
      rw [show pt B = .tuple (B.map .int) from rfl]
      o_attr
      refine s_ixT rfl (head_atX z1) ?_
      obtain ⟨n0, n1⟩ := z2 _ (head_memX z1)
      obtain ⟨j, ej⟩ := Int.eq_ofNat_of_zero_le n0
      rw [ej] at n1 ⊢
      have hj : j < f.length := by rw [hf1]; omega
      refine s_augK (f.getD j 0) rfl (by omega) (intsAt hj) ?_
      o_attr
      refine ⟨m, s, t, by omega, by omega, z3, z4, rfl, fun ds' => ?_⟩
      o_attr
      refine ⟨amid m s t, f.map .int, j, rfl, rfl, ixN_ok (by rw [List.length_map]; exact hj), ?_⟩
      refine hK2 _ ⟨S ++ [(B, s, t)], f.set j (f.getD j 0 + amid m s t), .fr (pt B), .fr (lnD s), .fr (lnD t), hS2, by rw [List.length_set]; exact hf1, fun z i hi => ?_, by rw [List.map_set]; rfl⟩ ⟨rfl, rfl, rfl⟩
      rw [set_getDX hj, List.map_append, List.sum_append, List.map_cons, List.map_nil, List.sum_cons, List.sum_nil]
      by_cases e : i = j
      · subst e
        rw [if_pos rfl, hf2 hL i hi, show stZ m i (B, s, t) = amid m s t by unfold stZ; exact if_pos ej]
        omega
      · rw [if_neg e, hf2 hL i hi]
        have : stZ m i (B, s, t) = 0 := by
          unfold stZ
          rw [if_neg (fun z => by
            have z : B.getD 0 0 = (i : Int) := z
            omega)]
        rw [this]
        omega
  · rintro st ⟨S, f, d7, d8, d9, hS, hf1, hf2, rfl⟩
    rw [List.append_nil] at hS
    o_attr
    have : f = (List.range xs.length).map fun i => cntW L m i := by
      apply List.ext_getElem
      · rw [List.length_map, List.length_range, hf1]
      · intro i h1 h2
        rw [List.getElem_map, List.getElem_range]
        have hL : L ≠ [] := fun z => by rw [z] at hLl; simp at hLl; omega
        have := hf2 hL i (by omega)
        rw [List.getD_eq_getElem?_getD, List.getElem?_eq_getElem h1] at this
        have e3 : f[i] = (E.map (wh1 L m i)).sum + (S.map (stZ m i)).sum := this
        rw [e3, ← hS, sumS_eq, ← eE, List.cons_append, List.map_cons, List.sum_cons, sumE_eq]
        exact shares_ok (by omega) hL hT i
    rw [this]
    exact q _
  · exact absurd (show (m : Int) ≤ 1000000000000 by omega) h
  · exact absurd (show (1 : Int) ≤ m by omega) h
  · exact absurd rfl h
/-! need_order -/
--I X31
def S_need_order : VSp := fun ds Q E => ∃ (m : Nat) (ps : List (List Int)), m ≤ 10 ∧ ((∃ os : List Nat, Ord m os ∧ ds = [.fr (.tuple [.int m, pts ps]), .fr (ptN os)] ∧ ∀ ds', Q (.fr .none) ds') ∨ (∃ xs : List Int, xs.length ≤ 1000 ∧ ordB m xs = false ∧ ds = [.fr (.tuple [.int m, pts ps]), .fr (pt xs)] ∧ ∀ ds', E ⟨"NoOrder", none⟩ ds'))
theorem len_need_order : ∀ ds Q E, S_need_order ds Q E → ds.length = 2 := by rintro _ _ _ ⟨_, _, _, ⟨_, _, rfl, _⟩ | ⟨_, _, _, rfl, _⟩⟩ <;> rfl
abbrev N_need_order : List Str := ["book", "order"]
def t_need_order (EX : Xn → List Vl → Prop) : DTS := (cIfS (cTst (c2 (gEq true) (cFn (g1 gSrtT) (cCons (cVar 1) cNil)) (cLsR (cRgA (c2 gIx (cVar 0) (cK (.fr (.int 0)))))))) (cRaise "NoOrder" EX) cNext)
theorem r_need_order : ∀ ds Q0 E0, S_need_order ds Q0 E0 → t_need_order E0 (dEnds Q0) (ds ++ List.replicate (N_need_order.length - 2) .gone) := by
  rintro ds Q0 E0 ⟨m, ps, hm, ⟨os, ho, rfl, q⟩ | ⟨xs, hx, ho, rfl, q⟩⟩
  · simp only [N_need_order, List.length_cons, List.length_nil, List.cons_append, List.nil_append, Nat.reduceAdd, Nat.reduceSub, Nat.zero_add, List.replicate_succ, List.replicate_zero]; unfold t_need_order
    rw [ptN_eq]
    o_attr
    refine s_srtTI _ rfl ?_
    rw [sort_ord ho]
    o_attr
    rw [rngN, show ((List.range m).map fun (i : Nat) => PyData.int (i : Int)) = ((List.range m).map fun (k : Nat) => (k : Int)).map .int by rw [List.map_map]; rfl]
    refine s_brEq (eqv_pl _ _) ?_
    rw [decide_eq_true rfl]
    o_attr
    exact q _
  · simp only [N_need_order, List.length_cons, List.length_nil, List.cons_append, List.nil_append, Nat.reduceAdd, Nat.reduceSub, Nat.zero_add, List.replicate_succ, List.replicate_zero]; unfold t_need_order
    o_attr
    refine s_srtTI _ rfl ?_
    o_attr
    rw [rngN, show ((List.range m).map fun (i : Nat) => PyData.int (i : Int)) = ((List.range m).map fun (k : Nat) => (k : Int)).map .int by rw [List.map_map]; rfl]
    refine s_brEq (eqv_pl _ _) ?_
    rw [show decide ((xs.mergeSort fun a b => decide (a ≤ b)) = (List.range m).map fun (k : Nat) => (k : Int)) = false from ho]
    o_attr
    exact q _
/-! turned -/
def S_turned : VSp := fun ds Q _ => ∃ (m : Nat) (p : List Int) (os : List Nat), m ≤ 10 ∧ Ord m os ∧ p.length = m ∧ ds = [.fr (pt p), .fr (ptN os)] ∧ ∀ ds', Q (.fr (pt (tk os p))) ds'
theorem len_turned : ∀ ds Q E, S_turned ds Q E → ds.length = 2 := by rintro _ _ _ ⟨_, _, _, _, _, _, rfl, _⟩; rfl
abbrev N_turned : List Str := ["point", "order", "measure"]
def t_turned : DTS := (cRet (cFn (g1 gTpl) (cCons (cLc [] [2] (cSeqI (cVar 1)) (gNm 2) cYes (c2 kSub (cK (.fr (.int 0))) (c2 gIx (cVar 0) (cVar 2)))) cNil)))
theorem r_turned : ∀ ds Q0 E0, S_turned ds Q0 E0 → t_turned (dEnds Q0) (ds ++ List.replicate (N_turned.length - 2) .gone) := by
  rintro ds Q0 E0 ⟨m, p, os, hm, ho, hp, rfl, q⟩
  have hol := ho.len
  simp only [N_turned, List.length_cons, List.length_nil, List.cons_append, List.nil_append, Nat.reduceAdd, Nat.reduceSub, Nat.zero_add, List.replicate_succ, List.replicate_zero]; unfold t_turned
  o_attr
  apply s_lcMap os (fun (k : Nat) => PyData.int (k : Int)) (fun k => some (PyData.int (0 - p.getD k 0))) rfl; (· (first | (simp only [wipeD, List.set_cons_zero, List.set_cons_succ]; done) | (simp only [wipeD, List.set_cons_zero, List.set_cons_succ]; rfl))); (· (first | (simp only [rst, List.set_cons_zero, List.set_cons_succ, Option.getD_some, List.getElem?_cons_zero, List.getElem?_cons_succ]; done) | (simp only [rst, List.set_cons_zero, List.set_cons_succ, Option.getD_some, List.getElem?_cons_zero, List.getElem?_cons_succ]; rfl)))
  · trivial
  · exact small (k := 10) (by omega)
  · intro k hk K hK
    have hkm := ho.lt hk
    have hat : atI (List.map PyData.int p) (k : Int) = some (.int (p.getD k 0)) := atI_ok (by rw [List.getElem?_map, List.getElem?_eq_getElem (by omega), List.getD_eq_getElem?_getD, List.getElem?_eq_getElem (by omega)]; rfl)
    o_norm
    exact hK
  · rw [fmap_some, show (os.map fun k => PyData.int (0 - p.getD k 0)) = (tk os p).map PyData.int by unfold tk; rw [List.map_map]; rfl]
    o_attr
    exact q _
/-! in_order -/
def S_in_order : VSp := fun ds Q _ => ∃ (m : Nat) (ps : List (List Int)) (os : List Nat), m ≤ 10 ∧ ps.length ≤ 24 ∧ Ord m os ∧ (∀ p ∈ ps, p.length = m) ∧ ds = [.fr (.tuple [.int m, pts ps]), .fr (ptN os)] ∧ ∀ ds', Q (.fr (pl (inO ps os))) ds'
theorem len_in_order : ∀ ds Q E, S_in_order ds Q E → ds.length = 2 := by rintro _ _ _ ⟨_, _, _, _, _, _, _, rfl, _⟩; rfl
abbrev N_in_order : List Str := ["book", "order", "point", "number", "at"]
def t_in_order : DTS := (cRet (cFrz (cLc [] [2, 3] (cSeqI (cFn (g1 gSrt) (cCons (cLc [] [4, 2] (cEnum (cCons (c2 gIx (cVar 0) (cK (.fr (.int 1)))) cNil)) (gTu 2 (gsCons (gNm 4) (gsCons (gNm 2) gsNil))) cYes (cTup (cCons (cFrz (cCall [] S_turned (cCons (cVar 2) (cCons (cVar 1) cNil)))) (cCons (cVar 4) cNil)))) cNil))) (gTu 2 (gsCons (gNm 2) (gsCons (gNm 3) gsNil))) cYes (cVar 3))))
theorem r_in_order : ∀ ds Q0 E0, S_in_order ds Q0 E0 → t_in_order (dEnds Q0) (ds ++ List.replicate (N_in_order.length - 2) .gone) := by
  rintro ds Q0 E0 ⟨m, ps, os, hm, hps, ho, hp, rfl, q⟩
  simp only [N_in_order, List.length_cons, List.length_nil, List.cons_append, List.nil_append, Nat.reduceAdd, Nat.reduceSub, Nat.zero_add, List.replicate_succ, List.replicate_zero]; unfold t_in_order
  o_attr
  apply s_lcMap (ps.zipIdx) (fun p => .tuple [.int (p.2 : Nat), pt p.1]) (fun p => some (tpI (tk os p.1, (p.2 : Int)))) (enum_map pt ps 0); (· (first | (simp only [wipeD, List.set_cons_zero, List.set_cons_succ]; done) | (simp only [wipeD, List.set_cons_zero, List.set_cons_succ]; rfl))); (· (first | (simp only [rst, List.set_cons_zero, List.set_cons_succ, Option.getD_some, List.getElem?_cons_zero, List.getElem?_cons_succ]; done) | (simp only [rst, List.set_cons_zero, List.set_cons_succ, Option.getD_some, List.getElem?_cons_zero, List.getElem?_cons_succ]; rfl)))
  · first | trivial | rfl | exact ⟨rfl, rfl⟩
  · rw [List.length_zipIdx]; exact small (k := 24) hps
  · rintro ⟨p, i⟩ h1 K hK
    have hpm := hp p (List.fst_mem_of_mem_zipIdx h1)
    o_norm
    refine ⟨m, p, os, hm, ho, hpm, rfl, fun ds' => ?_⟩
    o_attr
    exact hK
  · rw [fmap_some, show (ps.zipIdx.map fun p => tpI (tk os p.1, (p.2 : Int))) = (prs ps os).map tpI by unfold prs; rw [List.map_map]; rfl]
    o_attr
    refine s_srtTP (prs ps os) rfl ?_
    o_attr
    apply s_lcMap (srtd ps os) (fun p => PyData.tuple [pt p.1, .int p.2]) (fun p => some (PyData.int p.2)) rfl; (· (first | (simp only [wipeD, List.set_cons_zero, List.set_cons_succ]; done) | (simp only [wipeD, List.set_cons_zero, List.set_cons_succ]; rfl))); (· (first | (simp only [rst, List.set_cons_zero, List.set_cons_succ, Option.getD_some, List.getElem?_cons_zero, List.getElem?_cons_succ]; done) | (simp only [rst, List.set_cons_zero, List.set_cons_succ, Option.getD_some, List.getElem?_cons_zero, List.getElem?_cons_succ]; rfl)))
    · trivial
    · rw [(srtd_perm ps os).length_eq]; unfold prs; rw [List.length_map, List.length_zipIdx]; exact small (k := 24) hps
    · rintro ⟨t, i⟩ _ K hK
      o_norm
      exact hK
    rw [fmap_some, show ((srtd ps os).map fun p => PyData.int p.2) = (inO ps os).map PyData.int by unfold inO; rw [List.map_map]; rfl]
    o_attr
    exact q _
/-! sorted_by -/
--I X31
def S_sorted_by : VSp := fun ds Q E => ∃ (m : Nat) (ps : List (List Int)), m ≤ 10 ∧ ((∃ os : List Nat, ps.length ≤ 24 ∧ Ord m os ∧ (∀ p ∈ ps, p.length = m) ∧ ds = [.fr (.tuple [.int m, pts ps]), .fr (ptN os)] ∧ ∀ ds', Q (.fr (pt (inO ps os))) ds') ∨ (∃ xs : List Int, xs.length ≤ 1000 ∧ ordB m xs = false ∧ ds = [.fr (.tuple [.int m, pts ps]), .fr (pt xs)] ∧ ∀ ds', E ⟨"NoOrder", none⟩ ds'))
theorem len_sorted_by : ∀ ds Q E, S_sorted_by ds Q E → ds.length = 2 := by rintro _ _ _ ⟨_, _, _, ⟨_, _, _, _, rfl, _⟩ | ⟨_, _, _, rfl, _⟩⟩ <;> rfl
abbrev N_sorted_by : List Str := ["book", "order"]
def t_sorted_by (EX : Xn → List Vl → Prop) : DTS := (cSeq (cDrop (cCallX [] S_need_order EX (cCons (cVar 0) (cCons (cVar 1) cNil)))) (cRet (cFn (g1 gTpl) (cCons (cCall [] S_in_order (cCons (cVar 0) (cCons (cVar 1) cNil))) cNil))))
theorem r_sorted_by : ∀ ds Q0 E0, S_sorted_by ds Q0 E0 → t_sorted_by E0 (dEnds Q0) (ds ++ List.replicate (N_sorted_by.length - 2) .gone) := by
  rintro ds Q0 E0 ⟨m, ps, hm, ⟨os, hps, ho, hp, rfl, q⟩ | ⟨xs, hx, ho, rfl, q⟩⟩
  · simp only [N_sorted_by, List.length_cons, List.length_nil, List.cons_append, List.nil_append, Nat.reduceAdd, Nat.reduceSub, Nat.zero_add, List.replicate_succ, List.replicate_zero]; unfold t_sorted_by
    o_attr
    refine ⟨m, ps, hm, .inl ⟨os, ho, rfl, fun ds' => ?_⟩⟩
    o_attr
    refine ⟨m, ps, os, hm, hps, ho, hp, rfl, fun ds' => ?_⟩
    o_attr
    exact q _
  · simp only [N_sorted_by, List.length_cons, List.length_nil, List.cons_append, List.nil_append, Nat.reduceAdd, Nat.reduceSub, Nat.zero_add, List.replicate_succ, List.replicate_zero]; unfold t_sorted_by
    o_attr
    refine ⟨m, ps, hm, .inr ⟨xs, hx, ho, rfl, fun ds' => ?_⟩⟩
    o_attr
    exact q _
/-! spread_in -/
def S_spread_in : VSp := fun ds Q _ => ∃ (m k : Nat) (ps : List (List Int)), ps.length ≤ 24 ∧ k < m ∧ (∀ p ∈ ps, p.length = m) ∧ ds = [.fr (.tuple [.int m, pts ps]), .fr (.int (k : Nat))] ∧ ∀ ds', Q (.fr (.int (spr ps k))) ds'
theorem len_spread_in : ∀ ds Q E, S_spread_in ds Q E → ds.length = 2 := by rintro _ _ _ ⟨_, _, _, _, _, _, rfl, _⟩; rfl
abbrev N_spread_in : List Str := ["book", "measure", "numbers", "point"]
def t_spread_in : DTS := (cSeq (cAsg (cFrz (cLc [] [3] (cSeqI (c2 gIx (cVar 0) (cK (.fr (.int 1))))) (gNm 3) cYes (c2 gIx (cVar 3) (cVar 1)))) (gNm 2)) (cRet (c2 kSub (cMaxDf (cVar 2) (cK (.fr (.int 0)))) (cMinDf (cVar 2) (cK (.fr (.int 0)))))))
theorem r_spread_in : ∀ ds Q0 E0, S_spread_in ds Q0 E0 → t_spread_in (dEnds Q0) (ds ++ List.replicate (N_spread_in.length - 2) .gone) := by
  rintro ds Q0 E0 ⟨m, k, ps, hps, hk, hp, rfl, q⟩
  simp only [N_spread_in, List.length_cons, List.length_nil, List.cons_append, List.nil_append, Nat.reduceAdd, Nat.reduceSub, Nat.zero_add, List.replicate_succ, List.replicate_zero]; unfold t_spread_in
  o_attr
  apply s_lcMap ps pt (fun p => some (PyData.int (p.getD k 0))) rfl; (· (first | (simp only [wipeD, List.set_cons_zero, List.set_cons_succ]; done) | (simp only [wipeD, List.set_cons_zero, List.set_cons_succ]; rfl))); (· (first | (simp only [rst, List.set_cons_zero, List.set_cons_succ, Option.getD_some, List.getElem?_cons_zero, List.getElem?_cons_succ]; done) | (simp only [rst, List.set_cons_zero, List.set_cons_succ, Option.getD_some, List.getElem?_cons_zero, List.getElem?_cons_succ]; rfl)))
  · trivial
  · exact small (k := 24) hps
  · intro p h1 K hK
    have hpm := hp p h1
    have hat : atI (List.map PyData.int p) (k : Int) = some (.int (p.getD k 0)) := atI_ok (by rw [List.getElem?_map, List.getElem?_eq_getElem (by omega), List.getD_eq_getElem?_getD, List.getElem?_eq_getElem (by omega)]; rfl)
    o_norm
    exact hK
  · rw [fmap_some, show (ps.map fun p => PyData.int (p.getD k 0)) = (ps.map fun p => p.getD k 0).map PyData.int by rw [List.map_map]; rfl]
    o_norm
    refine ⟨_, rfl, fun e => ?_, fun mx h1 h2 => ?_⟩
    · have e0 : ps = [] := List.map_eq_nil_iff.mp e
      subst e0
      o_attr
      refine ⟨_, rfl, fun e => ?_, fun mn h1 h2 => (by cases h1)⟩
      o_attr
      exact q _
    · o_attr
      refine ⟨_, rfl, fun e => (by rw [e] at h1; cases h1), fun mn g1 g2 => ?_⟩
      o_attr
      rw [topL_is h1 h2, lowL_is g1 g2]
      exact q _
/-! weights_by -/
--I X31
def S_weights_by : VSp := fun ds Q E => ∃ (m : Nat) (ps : List (List Int)), 1 ≤ m ∧ m ≤ 4 ∧ ((∃ os : List Nat, ps.length ≤ 24 ∧ Ord m os ∧ (∀ p ∈ ps, p.length = m) ∧ (∀ p ∈ ps, ∀ x ∈ p, FarI x) ∧ ds = [.fr (.tuple [.int m, pts ps]), .fr (ptN os)] ∧ ∀ ds', Q (.fr (pt (wBy ps m os))) ds') ∨ (∃ xs : List Int, xs.length ≤ 1000 ∧ ordB m xs = false ∧ ds = [.fr (.tuple [.int m, pts ps]), .fr (pt xs)] ∧ ∀ ds', E ⟨"NoOrder", none⟩ ds'))
theorem len_weights_by : ∀ ds Q E, S_weights_by ds Q E → ds.length = 2 := by rintro _ _ _ ⟨_, _, _, _, ⟨_, _, _, _, _, rfl, _⟩ | ⟨_, _, _, rfl, _⟩⟩ <;> rfl
abbrev N_weights_by : List Str := ["book", "order", "found", "behind", "measure"]
def t_weights_by (EX : Xn → List Vl → Prop) : DTS := (cSeq (cDrop (cCallX [] S_need_order EX (cCons (cVar 0) (cCons (cVar 1) cNil)))) (cSeq (cAsg (c2 gRepA (cLst (cCons (cK (.fr (.int 1))) cNil)) (c2 gIx (cVar 0) (cK (.fr (.int 0))))) (gNm 2)) (cSeq (cAsg (cK (.fr (.int 0))) (gNm 3)) (cSeq (cFor [] (cRevI (cVar 1)) (gNm 4) (cSeq (cAsg (c2 gAdd (cVar 3) (cK (.fr (.int 1)))) (gSub (cVar 2) (cVar 4))) (cAsg (cFrz (c2 gAdd (cVar 3) (c2 kMul (c2 gIx (cVar 2) (cVar 4)) (cCall [] S_spread_in (cCons (cVar 0) (cCons (cVar 4) cNil)))))) (gNm 3)))) (cRet (cFn (g1 gTpl) (cCons (cVar 2) cNil)))))))
theorem r_weights_by : ∀ ds Q0 E0, S_weights_by ds Q0 E0 → t_weights_by E0 (dEnds Q0) (ds ++ List.replicate (N_weights_by.length - 2) .gone) := by
  rintro ds Q0 E0 ⟨m, ps, hm1, hm, ⟨os, hps, ho, hp, hf, rfl, q⟩ | ⟨xs, hx, ho, rfl, q⟩⟩
  rotate_left
  · simp only [N_weights_by, List.length_cons, List.length_nil, List.cons_append, List.nil_append, Nat.reduceAdd, Nat.reduceSub, Nat.zero_add, List.replicate_succ, List.replicate_zero]; unfold t_weights_by
    o_attr
    refine ⟨m, ps, by omega, .inr ⟨xs, hx, ho, rfl, fun ds' => ?_⟩⟩
    o_attr
    exact q _
  simp only [N_weights_by, List.length_cons, List.length_nil, List.cons_append, List.nil_append, Nat.reduceAdd, Nat.reduceSub, Nat.zero_add, List.replicate_succ, List.replicate_zero]; unfold t_weights_by
  o_attr
  refine ⟨m, ps, by omega, .inl ⟨os, ho, rfl, fun ds' => ?_⟩⟩
  o_attr
  refine s_repL1 (n := m) (by omega) ?_
  o_norm
  refine s_forMap os.reverse (fun (k : Nat) => PyData.int (k : Int)) (fun l' st => ∃ (os' : List Nat) (d4 : Vl), l'.reverse ++ os' = os ∧ st = [.fr (.tuple [.int m, pts ps]), .fr (ptN os), .ow ((wSt ps m os').1.map .int), .fr (.int (wSt ps m os').2), d4]) (by rw [List.map_reverse]) trivial ⟨[], _, by rw [List.reverse_reverse, List.append_nil], by rw [wSt]; simp only [List.map_replicate]; rfl⟩ ?_ ?_
  · rintro k l' st ⟨os', d4, he, rfl⟩ K hK
    rw [List.reverse_cons, List.append_assoc, List.singleton_append] at he
    have hkm : k < m := ho.lt (by rw [← he]; exact List.mem_append_right _ List.mem_cons_self)
    have hwl := wSt_len ps m os'
    o_norm
    refine s_subK (j := k) (zs := ((wSt ps m (k :: os')).1.map .int)) rfl (by rw [List.length_map, hwl]; exact ixN_ok hkm) (by rw [wSt, List.map_set]) (by first | (simp only [List.set_cons_succ, List.set_cons_zero]; done) | (simp only [List.set_cons_succ, List.set_cons_zero]; rfl)) ?_
    have hget : atI ((wSt ps m (k :: os')).1.map PyData.int) (k : Int) = some (.int ((wSt ps m os').2 + 1)) := by
      refine atI_ok ?_
      rw [wSt, List.getElem?_map, List.getElem?_set_self (by omega)]
      rfl
    o_norm
    have hs1 := (spr_ok ps k).1
    have hs2 := spr_far hf k
    refine ⟨m, k, ps, hps, hkm, hp, rfl, fun ds' => ?_⟩
    o_norm
    exact hK _ ⟨k :: os', _, he, rfl⟩ trivial
  · rintro st ⟨os', d4, he, rfl⟩
    rw [List.reverse_nil, List.nil_append] at he
    subst he
    o_attr
    exact q _
/-! is_greater_by -/
def S_is_greater_by : VSp := fun ds Q _ => ∃ ws p q : List Int, p.length ≤ 10 ∧ q.length ≤ 10 ∧ (∀ x ∈ p, FarI x) ∧ (∀ x ∈ q, FarI x) ∧ ds = [.fr (pt ws), .fr (pt p), .fr (pt q)] ∧ ∀ ds', Q (.fr (.bool (gtBy ws p q))) ds'
theorem len_is_greater_by : ∀ ds Q E, S_is_greater_by ds Q E → ds.length = 3 := by rintro _ _ _ ⟨_, _, _, _, _, _, _, rfl, _⟩; rfl
abbrev N_is_greater_by : List Str := ["weights", "one", "other"]
def t_is_greater_by : DTS := (cRet (cFrz (cOrV (c2 (gEq false) (cVar 1) (cVar 2)) (c2 (kGt) (cCall [] S_sum_by (cCons (cVar 1) (cCons (cVar 0) cNil))) (cCall [] S_sum_by (cCons (cVar 2) (cCons (cVar 0) cNil)))))))
theorem r_is_greater_by : ∀ ds Q0 E0, S_is_greater_by ds Q0 E0 → t_is_greater_by (dEnds Q0) (ds ++ List.replicate (N_is_greater_by.length - 3) .gone) := by
  rintro ds Q0 E0 ⟨ws, p, q, hp, hq, fp, fq, rfl, qq⟩
  simp only [N_is_greater_by, List.length_cons, List.length_nil, List.cons_append, List.nil_append, Nat.reduceAdd, Nat.reduceSub, Nat.zero_add, List.replicate_succ, List.replicate_zero]; unfold t_is_greater_by
  o_attr
  · have e : gtBy ws p q = true := by unfold gtBy; rw [decide_eq_true (show p = q by assumption), Bool.true_or]
    rw [e] at qq
    exact qq _
  · have e : gtBy ws p q = decide (dotS q ws < dotS p ws) := by unfold gtBy; rw [decide_eq_false (show ¬ p = q by assumption), Bool.false_or]
    rw [e] at qq
    refine ⟨p, ws, by omega, fp, rfl, fun ds' => ?_⟩
    o_attr
    refine ⟨q, ws, by omega, fq, rfl, fun ds' => ?_⟩
    o_attr
    exact qq _
/-! go_by -/
--I X31
def S_go_by : VSp := fun ds Q E => ∃ (m : Nat) (ps : List (List Int)) (ws : List Int), m ≤ 4 ∧ ws.length ≤ 10 ∧ ((∃ os : List Nat, ps.length ≤ 24 ∧ Ord m os ∧ (∀ p ∈ ps, p.length = m) ∧ (∀ p ∈ ps, ∀ x ∈ p, FarI x) ∧ ds = [.fr (.tuple [.int m, pts ps]), .fr (ptN os), .fr (pt ws)] ∧ ∀ ds', Q (.fr (.bool (goesB ps m os ws))) ds') ∨ (∃ xs : List Int, xs.length ≤ 1000 ∧ ordB m xs = false ∧ ds = [.fr (.tuple [.int m, pts ps]), .fr (pt xs), .fr (pt ws)] ∧ ∀ ds', E ⟨"NoOrder", none⟩ ds'))
theorem len_go_by : ∀ ds Q E, S_go_by ds Q E → ds.length = 3 := by rintro _ _ _ ⟨_, _, _, _, _, ⟨_, _, _, _, _, rfl, _⟩ | ⟨_, _, _, rfl, _⟩⟩ <;> rfl
abbrev N_go_by : List Str := ["book", "order", "thing", "some", "weight", "number", "ahead", "behind"]
def t_go_by (EX : Xn → List Vl → Prop) : DTS := (cSeq (cDrop (cCallX [] S_need_order EX (cCons (cVar 0) (cCons (cVar 1) cNil)))) (cSeq (cIfS (cOr (cTst (c2 (gEq true) (cFn (g1 gLen) (cCons (cVar 2) cNil)) (c2 gIx (cVar 0) (cK (.fr (.int 0)))))) (cNot (cTst (cFn (g1 (gBools kAll)) (cCons (cLc [] [4] (cSeqI (cVar 2)) (gNm 4) cYes (c2 (kGe) (cVar 4) (cK (.fr (.int 1))))) cNil))))) (cRet (cK (.fr (.bool false)))) cNext) (cSeq (cAsg (cFrz (cLc [] [5] (cSeqI (cCall [] S_in_order (cCons (cVar 0) (cCons (cVar 1) cNil)))) (gNm 5) cYes (c2 gIx (c2 gIx (cVar 0) (cK (.fr (.int 1)))) (cVar 5)))) (gNm 3)) (cRet (cFn (g1 (gBools kAll)) (cCons (cLc [] [6, 7] (cZip2 (cCons (cVar 3) (cCons (cFrz (cSl (cVar 3) (cPt (cK (.fr (.int 1)))) cNoP)) cNil))) (gTu 2 (gsCons (gNm 6) (gsCons (gNm 7) gsNil))) cYes (cFrz (cCall [] S_is_greater_by (cCons (cVar 2) (cCons (cVar 6) (cCons (cVar 7) cNil)))))) cNil))))))
theorem r_go_by : ∀ ds Q0 E0, S_go_by ds Q0 E0 → t_go_by E0 (dEnds Q0) (ds ++ List.replicate (N_go_by.length - 3) .gone) := by
  rintro ds Q0 E0 ⟨m, ps, ws, hm, hw, ⟨os, hps, ho, hp, hf, rfl, q⟩ | ⟨xs, hx, ho, rfl, q⟩⟩
  rotate_left
  · simp only [N_go_by, List.length_cons, List.length_nil, List.cons_append, List.nil_append, Nat.reduceAdd, Nat.reduceSub, Nat.zero_add, List.replicate_succ, List.replicate_zero]; unfold t_go_by
    o_attr
    refine ⟨m, ps, by omega, .inr ⟨xs, hx, ho, rfl, fun ds' => ?_⟩⟩
    o_attr
    exact q _
  have hwl : (List.map PyData.int ws).length = ws.length := List.length_map _
  simp only [N_go_by, List.length_cons, List.length_nil, List.cons_append, List.nil_append, Nat.reduceAdd, Nat.reduceSub, Nat.zero_add, List.replicate_succ, List.replicate_zero]; unfold t_go_by
  o_attr
  refine ⟨m, ps, by omega, .inl ⟨os, ho, rfl, fun ds' => ?_⟩⟩
  o_attr
  · have hwm : ws.length = m := by omega
    have hge : goesB ps m os ws = ((ws.all fun w => decide (1 ≤ w)) && (((inP ps os).zip ((inP ps os).drop 1)).all fun x => gtBy ws x.1 x.2)) := by
      unfold goesB
      rw [decide_eq_true hwm, Bool.true_and, goes_chain ws ho hp]
    rw [hge] at q
    apply s_lcMap ws PyData.int (fun w => some (PyData.bool (decide (1 ≤ w)))) rfl; (· (first | (simp only [wipeD, List.set_cons_zero, List.set_cons_succ]; done) | (simp only [wipeD, List.set_cons_zero, List.set_cons_succ]; rfl))); (· (first | (simp only [rst, List.set_cons_zero, List.set_cons_succ, Option.getD_some, List.getElem?_cons_zero, List.getElem?_cons_succ]; done) | (simp only [rst, List.set_cons_zero, List.set_cons_succ, Option.getD_some, List.getElem?_cons_zero, List.getElem?_cons_succ]; rfl)))
    · trivial
    · exact small (k := 10) hw
    · intro w _ K hK
      o_norm
      exact hK
    o_attr
    refine s_bools (ws.map fun w => decide (1 ≤ w)) rfl (by rw [fmap_some, List.map_map]; rfl) ?_
    o_attr
    have ek : kAll (ws.map fun w => decide (1 ≤ w)) = ws.all fun w => decide (1 ≤ w) := by unfold kAll; rw [List.all_map]; rfl
    rw [ek]
    refine s_br (fun h1 => ?_) (fun h1 => ?_)
    · rw [h1, Bool.true_and] at q
      o_attr
      refine ⟨m, ps, os, by omega, hps, ho, hp, rfl, fun ds' => ?_⟩
      o_attr
      apply s_lcMap (inO ps os) PyData.int (fun i => some (pt (ps.getD i.toNat []))) rfl; (· (first | (simp only [wipeD, List.set_cons_zero, List.set_cons_succ]; done) | (simp only [wipeD, List.set_cons_zero, List.set_cons_succ]; rfl))); (· (first | (simp only [rst, List.set_cons_zero, List.set_cons_succ, Option.getD_some, List.getElem?_cons_zero, List.getElem?_cons_succ]; done) | (simp only [rst, List.set_cons_zero, List.set_cons_succ, Option.getD_some, List.getElem?_cons_zero, List.getElem?_cons_succ]; rfl)))
      · trivial
      · rw [inO_len]; exact small (k := 24) hps
      · intro x hx K hK
        obtain ⟨k, hk, rfl⟩ := List.mem_map.mp ((inO_perm ps os).mem_iff.mp hx)
        have hkl := List.mem_range.mp hk
        have hat : atI (List.map pt ps) (k : Int) = some (pt (ps.getD ((k : Int)).toNat [])) := atI_ok (by rw [Int.toNat_natCast, List.getElem?_map, List.getD_eq_getElem?_getD, List.getElem?_eq_getElem hkl]; rfl)
        o_norm
        exact hK
      rw [fmap_some, show ((inO ps os).map fun i => pt (ps.getD i.toNat [])) = (inP ps os).map pt by unfold inO inP; rw [List.map_map, List.map_map]; rfl]
      o_norm
      rw [show cut (List.map pt (inP ps os)) (some 1) none = ((inP ps os).drop 1).map pt by rw [List.map_drop]; exact cut_drop (k := 1) _]
      have hil : (inP ps os).length ≤ 24 := by rw [(inP_perm ps os).length_eq]; exact hps
      have hin : ∀ p ∈ inP ps os, p.length = m ∧ ∀ x ∈ p, FarI x := fun p h => ⟨hp p ((inP_perm ps os).mem_iff.mp h), hf p ((inP_perm ps os).mem_iff.mp h)⟩
      apply s_lcMap ((inP ps os).zip ((inP ps os).drop 1)) (fun x => PyData.tuple [pt x.1, pt x.2]) (fun x => some (PyData.bool (gtBy ws x.1 x.2))) (zip_map pt pt _ _); (· (first | (simp only [wipeD, List.set_cons_zero, List.set_cons_succ]; done) | (simp only [wipeD, List.set_cons_zero, List.set_cons_succ]; rfl))); (· (first | (simp only [rst, List.set_cons_zero, List.set_cons_succ, Option.getD_some, List.getElem?_cons_zero, List.getElem?_cons_succ]; done) | (simp only [rst, List.set_cons_zero, List.set_cons_succ, Option.getD_some, List.getElem?_cons_zero, List.getElem?_cons_succ]; rfl)))
      · exact ⟨rfl, rfl⟩
      · rw [List.length_zip]; exact small (k := 24) (by omega)
      · rintro ⟨x, y⟩ hx K hK
        obtain ⟨m1, m2⟩ := List.of_mem_zip hx
        obtain ⟨x1, x2⟩ := hin x m1
        obtain ⟨y1, y2⟩ := hin y (List.mem_of_mem_drop m2)
        o_norm
        refine ⟨ws, x, y, by omega, by omega, x2, y2, rfl, fun ds' => ?_⟩
        o_attr
        exact hK
      o_attr
      refine s_bools (((inP ps os).zip ((inP ps os).drop 1)).map fun x => gtBy ws x.1 x.2) rfl (by rw [fmap_some, List.map_map]; rfl) ?_
      o_attr
      rw [show kAll (((inP ps os).zip ((inP ps os).drop 1)).map fun x => gtBy ws x.1 x.2) = ((inP ps os).zip ((inP ps os).drop 1)).all fun x => gtBy ws x.1 x.2 by unfold kAll; rw [List.all_map]; rfl]
      exact q _
    · rw [h1, Bool.false_and] at q
      o_attr
      exact q _
  · have hwm : ¬ ws.length = m := by omega
    have e : goesB ps m os ws = false := by unfold goesB; rw [decide_eq_false hwm, Bool.false_and, Bool.false_and]
    rw [e] at q
    exact q _
/-! _law_new_bag -/
def S__law_new_bag : VSp := fun ds Q _ => ∃ cell at_ : Int, 0 ≤ at_ ∧ at_ < 100 ∧ ds = [.fr (.int cell), .fr (.int at_)] ∧ ∀ l ds', Pot 0 l → Q (.ow l) ds'
theorem len__law_new_bag : ∀ ds Q E, S__law_new_bag ds Q E → ds.length = 2 := by rintro _ _ _ ⟨_, _, _, _, rfl, _⟩; rfl
abbrev N__law_new_bag : List Str := ["cell", "at", "digits"]
def t__law_new_bag : DTS := (cSeq (cAsg (cK (.fr (.int 0))) (gNm 2)) (cSeq (cIfS (cTst (c2 (kGe) (cVar 0) (c2 kPow (cK (.fr (.int 10))) (cK (.fr (.int 18)))))) (cAsg (c2 kSub (cVar 0) (c2 kPow (cK (.fr (.int 10))) (cK (.fr (.int 18))))) (gNm 2)) cNext) (cRet (cLst (cCons (cVar 2) (cCons (c2 gAdd (c2 kMod (cVar 0) (cK (.fr (.int 2305843009213693951)))) (c2 kMul (cK (.fr (.int 977))) (cVar 1))) (cCons (cK (.fr (.int 0))) cNil)))))))
theorem r__law_new_bag : ∀ ds Q0 E0, S__law_new_bag ds Q0 E0 → t__law_new_bag (dEnds Q0) (ds ++ List.replicate (N__law_new_bag.length - 2) .gone) := by
  rintro ds Q0 E0 ⟨cell, at_, h0, h1, rfl, q⟩
  simp only [N__law_new_bag, List.length_cons, List.length_nil, List.cons_append, List.nil_append, Nat.reduceAdd, Nat.reduceSub, Nat.zero_add, List.replicate_succ, List.replicate_zero]; unfold t__law_new_bag
  o_norm
  · exact q _ _ ⟨_, _, 0, rfl, by omega, by omega, by omega, by omega, by omega⟩
  · exact q _ _ ⟨_, _, 0, rfl, by omega, by omega, by omega, by omega, by omega⟩
/-! _law_draw -/
def S__law_draw : VSp := fun ds Q _ => ∃ l n many, Pot n l ∧ n < 2 ^ 20 ∧ 0 < many ∧ many < 2 ^ 40 ∧ ds = [.ow l, .fr (.int many)] ∧ ∀ l' x ds', Pot (n + 1) l' → 0 ≤ x → x < many → ds'[0]? = some (.ow l') → Q (.fr (.int x)) ds'
theorem len__law_draw : ∀ ds Q E, S__law_draw ds Q E → ds.length = 2 := by rintro _ _ _ ⟨_, _, _, _, _, _, _, rfl, _⟩; rfl
abbrev N__law_draw : List Str := ["bag", "many", "digit", "primes", "one", "two"]
def t__law_draw : DTS := (cSeq (cIfS (cTst (c2 (kGt) (c2 gIx (cVar 0) (cK (.fr (.int 0)))) (cK (.fr (.int 0))))) (cSeq (cAsg (c2 kMod (c2 gIx (cVar 0) (cK (.fr (.int 0)))) (cVar 1)) (gNm 2)) (cSeq (cAsg (c2 kFdiv (c2 gIx (cVar 0) (cK (.fr (.int 0)))) (cVar 1)) (gSub (cVar 0) (cK (.fr (.int 0))))) (cRet (cVar 2)))) cNext) (cSeq (cAsg (c2 gAdd (c2 gIx (cVar 0) (cK (.fr (.int 2)))) (cK (.fr (.int 1)))) (gSub (cVar 0) (cK (.fr (.int 2))))) (cSeq (cAsg (cFrz (cLst (cCons (cK (.fr (.int 2147483647))) (cCons (cK (.fr (.int 2147483629))) (cCons (cK (.fr (.int 2147483587))) (cCons (cK (.fr (.int 2147483579))) (cCons (cK (.fr (.int 2147483563))) (cCons (cK (.fr (.int 2147483549))) (cCons (cK (.fr (.int 2147483543))) cNil))))))))) (gNm 3)) (cSeq (cAsg (c2 kMod (c2 kPow (c2 gAdd (c2 kMul (c2 kMod (c2 gIx (cVar 0) (cK (.fr (.int 1)))) (c2 gIx (cVar 3) (c2 kMod (c2 gIx (cVar 0) (cK (.fr (.int 2)))) (cK (.fr (.int 7)))))) (c2 gAdd (c2 kMul (cK (.fr (.int 2))) (c2 gIx (cVar 0) (cK (.fr (.int 2))))) (cK (.fr (.int 1))))) (c2 kMul (cK (.fr (.int 7919))) (c2 gIx (cVar 0) (cK (.fr (.int 2)))))) (cK (.fr (.int 3)))) (c2 gIx (cVar 3) (c2 kMod (c2 gAdd (c2 gIx (cVar 0) (cK (.fr (.int 2)))) (cK (.fr (.int 3)))) (cK (.fr (.int 7)))))) (gNm 4)) (cSeq (cAsg (c2 gAdd (c2 gAdd (c2 kMul (cVar 4) (cVar 4)) (c2 kMod (c2 gIx (cVar 0) (cK (.fr (.int 1)))) (cK (.fr (.int 998244353))))) (c2 kMul (cK (.fr (.int 104729))) (c2 gIx (cVar 0) (cK (.fr (.int 2)))))) (gNm 5)) (cRet (c2 kMod (c2 kFdiv (c2 kMod (c2 kPow (cVar 5) (cK (.fr (.int 5)))) (c2 gIx (cVar 3) (c2 kMod (c2 gAdd (c2 gIx (cVar 0) (cK (.fr (.int 2)))) (cK (.fr (.int 5)))) (cK (.fr (.int 7)))))) (cK (.fr (.int 16)))) (cVar 1))))))))
theorem primes7k {i : Int} (h0 : 0 ≤ i) (h8 : i < 7) (x1 x2 x3 x4 x5 x6 x7 : Int) (P : Int → Prop) (h : P x1 ∧ P x2 ∧ P x3 ∧ P x4 ∧ P x5 ∧ P x6 ∧ P x7) :
    ∃ p, atI [PyData.int x1, .int x2, .int x3, .int x4, .int x5, .int x6, .int x7] i = some (.int p) ∧ P p := by
  refine atI_all h0 (by simpa using h8) fun d hd => ?_
  simp only [List.mem_cons, List.not_mem_nil, or_false] at hd
  obtain ⟨h1, h2, h3, h4, h5, h6, h7⟩ := h
  rcases hd with rfl | rfl | rfl | rfl | rfl | rfl | rfl <;> exact ⟨_, rfl, by assumption⟩
theorem r__law_draw : ∀ ds Q0 E0, S__law_draw ds Q0 E0 → t__law_draw (dEnds Q0) (ds ++ List.replicate (N__law_draw.length - 2) .gone) := by
  rintro ds Q0 E0 ⟨l, n, many, ⟨a, b, c, rfl, ha, hb, hb2, hc, hcn⟩, hn, hm, hm2, rfl, q⟩
  simp only [N__law_draw, List.length_cons, List.length_nil, List.cons_append, List.nil_append, Nat.reduceAdd, Nat.reduceSub, Nat.zero_add, List.replicate_succ, List.replicate_zero]; unfold t__law_draw
  o_attr
  · refine s_nmI (fun x => 0 ≤ x ∧ x < many) rfl (modb hm) fun x hx => ?_
    o_attr
    exact q _ x _ ⟨a / many, b, c, rfl, Int.ediv_nonneg ha (by omega), hb, hb2, hc, by omega⟩ hx.1 hx.2 rfl
  · o_args
    o_attr
    refine s_ixI (f := Pr) rfl (primes7k (by omega) (by omega) _ _ _ _ _ _ _ Pr (by decide)) fun p hp => ?_
    have h1 := modb (x := b) (p := p) (by omega)
    have h2 := mul_box (x := b % p) (y := 2 * (c + 1) + 1) (a := 2 ^ 31) (b := 2 ^ 22) h1.1 (by omega) (by omega) (by omega)
    o_attr
    refine s_ixI (f := Pr) rfl (primes7k (by omega) (by omega) _ _ _ _ _ _ _ Pr (by decide)) fun p2 hp2 => ?_
    o_attr
    refine s_nmI (fun x => 0 ≤ x ∧ x < p2) rfl (modb (by omega)) fun one h3 => ?_
    have h4 := mul_box (x := one) (y := one) (a := 2 ^ 31) (b := 2 ^ 31) h3.1 (by omega) h3.1 (by omega)
    o_norm
    refine s_ixI (f := Pr) rfl (primes7k (by omega) (by omega) _ _ _ _ _ _ _ Pr (by decide)) fun p3 hp3 => ?_
    o_attr
    exact q _ _ _ ⟨a, b, c + 1, rfl, ha, hb, hb2, by omega, by omega⟩ (modb hm).1 (modb hm).2 rfl
/-! _law_wide -/
def S__law_wide : VSp := fun ds Q _ => ∃ l n many, Pot n l ∧ n < 2 ^ 19 ∧ 0 < many ∧ ds = [.ow l, .fr (.int many)] ∧ ∀ l' x ds', Pot (n + 2) l' → 0 ≤ x → x < many → ds'[0]? = some (.ow l') → Q (.fr (.int x)) ds'
theorem len__law_wide : ∀ ds Q E, S__law_wide ds Q E → ds.length = 2 := by rintro _ _ _ ⟨_, _, _, _, _, _, rfl, _⟩; rfl
abbrev N__law_wide : List Str := ["bag", "many"]
def t__law_wide : DTS := (cRet (c2 kMod (c2 gAdd (c2 kMul (cCall [0] S__law_draw (cCons (cVar 0) (cCons (c2 kPow (cK (.fr (.int 10))) (cK (.fr (.int 5)))) cNil))) (c2 kPow (cK (.fr (.int 10))) (cK (.fr (.int 5))))) (cCall [0] S__law_draw (cCons (cVar 0) (cCons (c2 kPow (cK (.fr (.int 10))) (cK (.fr (.int 5)))) cNil)))) (cVar 1)))
theorem r__law_wide : ∀ ds Q0 E0, S__law_wide ds Q0 E0 → t__law_wide (dEnds Q0) (ds ++ List.replicate (N__law_wide.length - 2) .gone) := by
  rintro ds Q0 E0 ⟨l, n, many, hP, hn, hm, rfl, q⟩
  simp only [N__law_wide, List.length_cons, List.length_nil, List.cons_append, List.nil_append, Nat.reduceAdd, Nat.reduceSub, Nat.zero_add, List.replicate_succ, List.replicate_zero]; unfold t__law_wide
  o_attr
  refine ⟨_, _, _, hP, by omega, by omega, by omega, rfl, fun l x ds1 hP h0x h1x e1 => ?_⟩; ((with_reducible apply s_up); (· (first | (simp only [upds, List.set_cons_zero, List.set_cons_succ, Option.getD_some, e1]; done) | (simp only [upds, List.set_cons_zero, List.set_cons_succ, Option.getD_some, e1]; rfl)))); o_attr
  refine ⟨_, _, _, hP, by omega, by omega, by omega, rfl, fun l y ds1 hP h0y h1y e1 => ?_⟩; ((with_reducible apply s_up); (· (first | (simp only [upds, List.set_cons_zero, List.set_cons_succ, Option.getD_some, e1]; done) | (simp only [upds, List.set_cons_zero, List.set_cons_succ, Option.getD_some, e1]; rfl)))); o_attr
  exact q _ _ _ hP (modb hm).1 (modb hm).2 rfl
/-! _law_a_number -/
def S__law_a_number : VSp := fun ds Q _ => ∃ (l : List PyData) (n : Nat) (kind : Int), Pot n l ∧ n < 2 ^ 18 ∧ 0 ≤ kind ∧ kind < 5 ∧ ds = [.ow l, .fr (.int kind)] ∧ ∀ l' x ds', Pot (n + 3) l' → FarI x → ds'[0]? = some (.ow l') → Q (.fr (.int x)) ds'
theorem len__law_a_number : ∀ ds Q E, S__law_a_number ds Q E → ds.length = 2 := by rintro _ _ _ ⟨_, _, _, _, _, _, _, rfl, _⟩; rfl
abbrev N__law_a_number : List Str := ["bag", "kind"]
def t__law_a_number : DTS := (cSeq (cIfS (cTst (c2 (gEq false) (cVar 1) (cK (.fr (.int 0))))) (cRet (cFrz (cCall [0] S__law_draw (cCons (cVar 0) (cCons (cK (.fr (.int 3))) cNil))))) cNext) (cSeq (cIfS (cTst (c2 (gEq false) (cVar 1) (cK (.fr (.int 1))))) (cRet (c2 kSub (cCall [0] S__law_draw (cCons (cVar 0) (cCons (cK (.fr (.int 19))) cNil))) (cK (.fr (.int 9))))) cNext) (cSeq (cIfS (cTst (c2 (gEq false) (cVar 1) (cK (.fr (.int 2))))) (cRet (c2 kSub (c2 kMul (cK (.fr (.int 10))) (cCall [0] S__law_draw (cCons (cVar 0) (cCons (cK (.fr (.int 7))) cNil)))) (cK (.fr (.int 30))))) cNext) (cSeq (cIfS (cTst (c2 (gEq false) (cVar 1) (cK (.fr (.int 3))))) (cRet (c2 gIx (cLst (cCons (c2 kSub (c2 kPow (cK (.fr (.int 10))) (cK (.fr (.int 9)))) (cCall [0] S__law_draw (cCons (cVar 0) (cCons (cK (.fr (.int 3))) cNil)))) (cCons (c2 kSub (cCall [0] S__law_draw (cCons (cVar 0) (cCons (cK (.fr (.int 3))) cNil))) (c2 kPow (cK (.fr (.int 10))) (cK (.fr (.int 9))))) cNil))) (cCall [0] S__law_draw (cCons (cVar 0) (cCons (cK (.fr (.int 2))) cNil))))) cNext) (cRet (c2 kSub (cCall [0] S__law_wide (cCons (cVar 0) (cCons (c2 gAdd (c2 kMul (cK (.fr (.int 2))) (c2 kPow (cK (.fr (.int 10))) (cK (.fr (.int 9))))) (cK (.fr (.int 1)))) cNil))) (c2 kPow (cK (.fr (.int 10))) (cK (.fr (.int 9))))))))))
theorem r__law_a_number : ∀ ds Q0 E0, S__law_a_number ds Q0 E0 → t__law_a_number (dEnds Q0) (ds ++ List.replicate (N__law_a_number.length - 2) .gone) := by
  rintro ds Q0 E0 ⟨l, n, kind, hP, hn, h0, h5, rfl, q⟩
  simp only [N__law_a_number, List.length_cons, List.length_nil, List.cons_append, List.nil_append, Nat.reduceAdd, Nat.reduceSub, Nat.zero_add, List.replicate_succ, List.replicate_zero]; unfold t__law_a_number
  o_attr
  · refine ⟨_, _, _, hP, by omega, by omega, by omega, rfl, fun l x ds1 hP h0x h1x e1 => ?_⟩; ((with_reducible apply s_up); (· (first | (simp only [upds, List.set_cons_zero, List.set_cons_succ, Option.getD_some, e1]; done) | (simp only [upds, List.set_cons_zero, List.set_cons_succ, Option.getD_some, e1]; rfl)))); o_attr
    exact q _ _ _ (hP.mono (by omega)) ⟨by omega, by omega⟩ rfl
  · refine ⟨_, _, _, hP, by omega, by omega, by omega, rfl, fun l x ds1 hP h0x h1x e1 => ?_⟩; ((with_reducible apply s_up); (· (first | (simp only [upds, List.set_cons_zero, List.set_cons_succ, Option.getD_some, e1]; done) | (simp only [upds, List.set_cons_zero, List.set_cons_succ, Option.getD_some, e1]; rfl)))); o_attr
    exact q _ _ _ (hP.mono (by omega)) ⟨by omega, by omega⟩ rfl
  · refine ⟨_, _, _, hP, by omega, by omega, by omega, rfl, fun l x ds1 hP h0x h1x e1 => ?_⟩; ((with_reducible apply s_up); (· (first | (simp only [upds, List.set_cons_zero, List.set_cons_succ, Option.getD_some, e1]; done) | (simp only [upds, List.set_cons_zero, List.set_cons_succ, Option.getD_some, e1]; rfl)))); o_attr
    exact q _ _ _ (hP.mono (by omega)) ⟨by omega, by omega⟩ rfl
  · refine ⟨_, _, _, hP, by omega, by omega, by omega, rfl, fun l x ds1 hP h0x h1x e1 => ?_⟩; ((with_reducible apply s_up); (· (first | (simp only [upds, List.set_cons_zero, List.set_cons_succ, Option.getD_some, e1]; done) | (simp only [upds, List.set_cons_zero, List.set_cons_succ, Option.getD_some, e1]; rfl)))); o_attr
    refine ⟨_, _, _, hP, by omega, by omega, by omega, rfl, fun l y ds1 hP h0y h1y e1 => ?_⟩; ((with_reducible apply s_up); (· (first | (simp only [upds, List.set_cons_zero, List.set_cons_succ, Option.getD_some, e1]; done) | (simp only [upds, List.set_cons_zero, List.set_cons_succ, Option.getD_some, e1]; rfl)))); o_attr
    refine ⟨_, _, _, hP, by omega, by omega, by omega, rfl, fun l z ds1 hP h0z h1z e1 => ?_⟩; ((with_reducible apply s_up); (· (first | (simp only [upds, List.set_cons_zero, List.set_cons_succ, Option.getD_some, e1]; done) | (simp only [upds, List.set_cons_zero, List.set_cons_succ, Option.getD_some, e1]; rfl)))); o_attr
    refine s_ixD (f := fun d => ∃ p, d = PyData.int p ∧ FarI p) rfl (atI_allD h0z (by simp only [List.length_cons, List.length_nil]; omega) fun d hd => ?_) ?_
    · simp only [List.mem_cons, List.not_mem_nil, or_false] at hd
      rcases hd with rfl | rfl
      · exact ⟨_, rfl, by omega, by omega⟩
      · exact ⟨_, rfl, by omega, by omega⟩
    rintro _ ⟨p, rfl, hp⟩
    o_attr
    exact q _ _ _ (hP.mono (by omega)) hp rfl
  · refine ⟨_, _, _, hP, by omega, by omega, rfl, fun l x ds1 hP h0x h1x e1 => ?_⟩
    ((with_reducible apply s_up); (· (first | (simp only [upds, List.set_cons_zero, List.set_cons_succ, Option.getD_some, e1]; done) | (simp only [upds, List.set_cons_zero, List.set_cons_succ, Option.getD_some, e1]; rfl))))
    o_attr
    exact q _ _ _ (hP.mono (by omega)) ⟨by omega, by omega⟩ rfl
/-! _law_a_book -/
def S__law_a_book : VSp := fun ds Q _ => ∃ (l : List PyData) (n m most : Nat), Pot n l ∧ n < 2 ^ 16 ∧ 1 ≤ m ∧ m ≤ 4 ∧ 1 ≤ most ∧ most ≤ 24 ∧ ds = [.ow l, .fr (.int (m : Nat)), .fr (.int (most : Nat))] ∧
  ∀ l' (ps : List (List Int)) ds', Pot (n + 5000) l' → ps.length ≤ most → (∀ p ∈ ps, p.length = m ∧ ∀ x ∈ p, FarI x) → ds'[0]? = some (.ow l') → Q (.fr (.tuple [.int (m : Nat), pts ps])) ds'
theorem len__law_a_book : ∀ ds Q E, S__law_a_book ds Q E → ds.length = 3 := by rintro _ _ _ ⟨_, _, _, _, _, _, _, _, _, _, rfl, _⟩; rfl
theorem ixN_neg1 {n : Nat} (h : 0 < n) : ixN n (-1) = some (n - 1) := by
  unfold ixN
  rw [if_neg (by decide), if_pos (by omega)]
  congr 1
  omega
theorem atI_neg1 {xs : List Int} (h : 0 < xs.length) : atI (xs.map PyData.int) (-1) = some (.int (xs.getD (xs.length - 1) 0)) := by
  unfold atI
  rw [ixN_neg1 (by rw [List.length_map]; exact h), List.length_map]
  show (xs.map PyData.int)[xs.length - 1]? = _
  rw [List.getElem?_map, List.getD_eq_getElem?_getD, List.getElem?_eq_getElem (by omega)]
  rfl
theorem sq_small {x : Int} (h1 : -30 ≤ x) (h2 : x ≤ 30) : 0 ≤ x * x ∧ x * x ≤ 900 := by
  rcases Int.le_total 0 x with h | h
  · have := mul_box (x := x) (y := x) (a := 30) (b := 30) h h2 h h2
    omega
  · have := mul_box (x := -x) (y := -x) (a := 30) (b := 30) (by omega) (by omega) (by omega) (by omega)
    rw [Int.neg_mul_neg] at this
    omega
theorem far_set {p : List Int} {i : Nat} {v : Int} (h : ∀ y ∈ p, FarI y) (hv : FarI v) : ∀ y ∈ p.set i v, FarI y := fun y hy => by
  rcases List.mem_or_eq_of_mem_set hy with h2 | h2
  · exact h y h2
  · rw [h2]; exact hv
abbrev N__law_a_book : List Str := ["bag", "measures", "most", "kind", "shape", "many", "found", "turn", "point", "place", "measure"]
def t__law_a_book : DTS := (cSeq (cAsg (cFrz (cCall [0] S__law_draw (cCons (cVar 0) (cCons (cK (.fr (.int 5))) cNil)))) (gNm 3)) (cSeq (cAsg (cFrz (cCall [0] S__law_draw (cCons (cVar 0) (cCons (cK (.fr (.int 4))) cNil)))) (gNm 4)) (cSeq (cAsg (cFn (g2I fun i j => min i j) (cCons (cVar 2) (cCons (c2 gIx (cLst (cCons (cFrz (cCall [0] S__law_draw (cCons (cVar 0) (cCons (c2 gAdd (cVar 2) (cK (.fr (.int 1)))) cNil)))) (cCons (cVar 2) (cCons (cFrz (c2 gAdd (cK (.fr (.int 1))) (cCall [0] S__law_draw (cCons (cVar 0) (cCons (cK (.fr (.int 5))) cNil))))) cNil)))) (cCall [0] S__law_draw (cCons (cVar 0) (cCons (cK (.fr (.int 3))) cNil)))) cNil))) (gNm 5)) (cSeq (cAsg (cLst cNil) (gNm 6)) (cSeq (cFor [] (cRng1 (cCons (cVar 5) cNil)) (gNm 7) (cSeq (cAsg (cLc [] [10] (cRng1 (cCons (cVar 1) cNil)) (gNm 10) cYes (cFrz (cCall [0] S__law_a_number (cCons (cVar 0) (cCons (cVar 3) cNil))))) (gNm 8)) (cSeq (cIfS (cAnd (cTst (c2 (gEq false) (cVar 4) (cK (.fr (.int 1))))) (cAnd (cTst (c2 (gEq true) (cVar 6) (cLst cNil))) (cTst (c2 (gEq false) (cCall [0] S__law_draw (cCons (cVar 0) (cCons (cK (.fr (.int 3))) cNil))) (cK (.fr (.int 0))))))) (cAsg (cFn (g1 gLst) (cCons (c2 gIx (cVar 6) (cCall [0] S__law_draw (cCons (cVar 0) (cCons (cFn (g1 gLen) (cCons (cVar 6) cNil)) cNil)))) cNil)) (gNm 8)) cNext) (cSeq (cIfS (cTst (c2 (gEq false) (cVar 4) (cK (.fr (.int 2))))) (cAsg (cFn (g2I fun i j => max i j) (cCons (c2 kSub (cK (.fr (.int 0))) (c2 kPow (cK (.fr (.int 10))) (cK (.fr (.int 9))))) (cCons (cFn (g2I fun i j => min i j) (cCons (c2 kPow (cK (.fr (.int 10))) (cK (.fr (.int 9)))) (cCons (c2 kSub (c2 gIx (cVar 8) (c1 gNeg (cK (.fr (.int 1))))) (cFn (g1 gSumA) (cCons (cVar 8) cNil))) cNil))) cNil))) (gSub (cVar 8) (c1 gNeg (cK (.fr (.int 1)))))) cNext) (cSeq (cIfS (cTst (c2 (gEq false) (cVar 4) (cK (.fr (.int 3))))) (cSeq (cAsg (c2 kSub (cCall [0] S__law_draw (cCons (cVar 0) (cCons (cK (.fr (.int 61))) cNil))) (cK (.fr (.int 30)))) (gNm 9)) (cSeq (cAsg (cVar 9) (gSub (cVar 8) (cK (.fr (.int 0))))) (cAsg (c2 kSub (cK (.fr (.int 0))) (c2 kMul (cVar 9) (cVar 9))) (gSub (cVar 8) (c1 gNeg (cK (.fr (.int 1)))))))) cNext) (cDrop (cMth' gApp (cVar 6) (cCons (cFn (g1 gTpl) (cCons (cVar 8) cNil)) cNil)))))))) (cRet (cTup (cCons (cVar 1) (cCons (cFn (g1 gTpl) (cCons (cVar 6) cNil)) cNil)))))))))
theorem r__law_a_book : ∀ ds Q0 E0, S__law_a_book ds Q0 E0 → t__law_a_book (dEnds Q0) (ds ++ List.replicate (N__law_a_book.length - 3) .gone) := by
  rintro ds Q0 E0 ⟨l, n, m, most, hP, hn, hm1, hm4, hmost1, hmost, rfl, q⟩
  simp only [N__law_a_book, List.length_cons, List.length_nil, List.cons_append, List.nil_append, Nat.reduceAdd, Nat.reduceSub, Nat.zero_add, List.replicate_succ, List.replicate_zero]; unfold t__law_a_book
  o_attr
  refine ⟨_, _, _, hP, by omega, by omega, by omega, rfl, fun l kind ds1 hP h0kind h1kind e1 => ?_⟩; ((with_reducible apply s_up); (· (first | (simp only [upds, List.set_cons_zero, List.set_cons_succ, Option.getD_some, e1]; done) | (simp only [upds, List.set_cons_zero, List.set_cons_succ, Option.getD_some, e1]; rfl)))); o_attr
  o_args
  o_attr
  refine ⟨_, _, _, hP, by omega, by omega, by omega, rfl, fun l shape ds1 hP h0shape h1shape e1 => ?_⟩; ((with_reducible apply s_up); (· (first | (simp only [upds, List.set_cons_zero, List.set_cons_succ, Option.getD_some, e1]; done) | (simp only [upds, List.set_cons_zero, List.set_cons_succ, Option.getD_some, e1]; rfl)))); o_attr
  o_args
  o_attr
  refine ⟨_, _, _, hP, by omega, by omega, by omega, rfl, fun l a1 ds1 hP h0a1 h1a1 e1 => ?_⟩; ((with_reducible apply s_up); (· (first | (simp only [upds, List.set_cons_zero, List.set_cons_succ, Option.getD_some, e1]; done) | (simp only [upds, List.set_cons_zero, List.set_cons_succ, Option.getD_some, e1]; rfl)))); o_attr
  refine ⟨_, _, _, hP, by omega, by omega, by omega, rfl, fun l a2 ds1 hP h0a2 h1a2 e1 => ?_⟩; ((with_reducible apply s_up); (· (first | (simp only [upds, List.set_cons_zero, List.set_cons_succ, Option.getD_some, e1]; done) | (simp only [upds, List.set_cons_zero, List.set_cons_succ, Option.getD_some, e1]; rfl)))); o_attr
  refine ⟨_, _, _, hP, by omega, by omega, by omega, rfl, fun l a3 ds1 hP h0a3 h1a3 e1 => ?_⟩; ((with_reducible apply s_up); (· (first | (simp only [upds, List.set_cons_zero, List.set_cons_succ, Option.getD_some, e1]; done) | (simp only [upds, List.set_cons_zero, List.set_cons_succ, Option.getD_some, e1]; rfl)))); o_attr
  refine s_ixD (f := fun p => ∃ o : Nat, p = PyData.int (o : Int)) rfl (atI_allD h0a3 (by simp only [List.length_cons, List.length_nil]; omega) fun d hd => ?_) ?_
  · simp only [List.mem_cons, List.not_mem_nil, or_false] at hd
    rcases hd with rfl | rfl | rfl
    · exact ⟨a1.toNat, by rw [Int.toNat_of_nonneg h0a1]⟩
    · exact ⟨most, rfl⟩
    · exact ⟨(1 + a2).toNat, by rw [Int.toNat_of_nonneg (by omega)]⟩
  rintro _ ⟨mn, rfl⟩
  o_attr
  obtain ⟨many, hmany, hml⟩ : ∃ k : Nat, min (most : Int) (mn : Int) = (k : Int) ∧ k ≤ most := ⟨min most mn, by omega, by omega⟩
  rw [hmany]
  o_args
  o_attr
  o_args
  o_attr
  refine s_rng1K (by omega) (by omega) ?_
  o_attr
  refine s_forMap (List.range many) (fun (i : Nat) => .int (i : Int)) (fun l' st => ∃ (l : List PyData) (c : Nat) (ps : List (List Int)) (d7 d8 d9 : Vl), Pot c l ∧ c + 200 * l'.length ≤ n + 5000 ∧ ps.length + l'.length = many ∧ (∀ p ∈ ps, p.length = m ∧ ∀ x ∈ p, FarI x) ∧
    st = [.ow l, .fr (.int (m : Nat)), .fr (.int (most : Nat)), .fr (.int kind), .fr (.int shape), .fr (.int (many : Nat)), .ow (ps.map pt), d7, d8, d9, .gone])
    (rngN _) trivial ⟨l, _, [], _, _, _, hP, by rw [List.length_range]; omega, by rw [List.length_range]; exact Nat.zero_add _, by simp, rfl⟩ ?_ ?_
  · rintro place l' st ⟨l, c, ps, d7, d8, d9, hP, hc, hl, hps, rfl⟩ K hK
    rw [List.length_cons] at hc hl
    o_norm
    refine s_rng1K (by omega) (by omega) ?_
    o_attr
    refine s_lcInv (List.range m) (fun (i : Nat) => .int (i : Int)) (fun l2 acc st => ∃ l c' ys, st = [.ow l, .fr (.int (m : Nat)), .fr (.int (most : Nat)), .fr (.int kind), .fr (.int shape), .fr (.int (many : Nat)), .ow (ps.map pt), .fr (.int (place : Nat)), d8, d9, .gone] ∧ Pot c' l ∧ c' + 3 * l2.length ≤ c + 3 * m ∧ acc = ys.map PyData.int ∧ ys.length + l2.length = m ∧ ∀ y ∈ ys, FarI y) (rngN m) rfl trivial (by rw [List.length_range]; exact small hm4) ⟨l, _, [], rfl, hP, by rw [List.length_range]; omega, rfl, by rw [List.length_range]; exact Nat.zero_add _, by simp⟩ ?_ ?_
    · rintro y l2 acc st ⟨l, c', ys, rfl, hP, hc', rfl, hl2, hys⟩ K hK
      rw [List.length_cons] at hc' hl2
      o_norm
      refine ⟨l, c', kind, hP, by omega, h0kind, h1kind, rfl, fun l z ds1 hP hz e1 => ?_⟩
      ((with_reducible apply s_up); (· (first | (simp only [upds, List.set_cons_zero, List.set_cons_succ, Option.getD_some, e1]; done) | (simp only [upds, List.set_cons_zero, List.set_cons_succ, Option.getD_some, e1]; rfl))))
      o_attr
      exact hK _ _ ⟨l, _, ys ++ [z], rfl, hP, by omega, by simp, by rw [List.length_append, List.length_singleton]; omega, fun y hy => by
        rcases List.mem_append.mp hy with h | h
        · exact hys y h
        · rw [List.mem_singleton.mp h]; exact hz⟩ trivial
    rintro acc st ⟨l, c', p, rfl, hP, hc', rfl, hl2, hpf⟩
    simp only [List.length_nil] at hc' hl2
    have hpl : p.length = m := by omega
    clear hl2
    let J : Nat → List Vl → Prop := fun k st => ∃ (l : List PyData) (c' : Nat) (p : List Int) (d9 : Vl), st = [.ow l, .fr (.int (m : Nat)), .fr (.int (most : Nat)), .fr (.int kind), .fr (.int shape), .fr (.int (many : Nat)), .ow (ps.map pt), .fr (.int (place : Nat)), .ow (p.map PyData.int), d9, .gone] ∧ Pot c' l ∧ c' ≤ c + k ∧ p.length = m ∧ ∀ y ∈ p, FarI y
    have hlen : (List.map pt ps).length = ps.length := List.length_map _
    o_attr
    o_args
    with_reducible refine s_seqCut (J 50) (fun K hK => ?_) ?_
    · o_attr
      · exact hK _ ⟨l, c', p, _, rfl, hP, by omega, hpl, hpf⟩
      · have hne : 0 < ps.length := by
          cases ps with
          | nil => exact absurd rfl (by assumption)
          | cons a b => exact Nat.zero_lt_succ _
        refine ⟨_, _, _, hP, by omega, by omega, by omega, rfl, fun l w ds1 hP h0w h1w e1 => ?_⟩; ((with_reducible apply s_up); (· (first | (simp only [upds, List.set_cons_zero, List.set_cons_succ, Option.getD_some, e1]; done) | (simp only [upds, List.set_cons_zero, List.set_cons_succ, Option.getD_some, e1]; rfl)))); o_attr
        · refine ⟨_, _, _, hP, by omega, by omega, by omega, rfl, fun l u ds1 hP h0u h1u e1 => ?_⟩; ((with_reducible apply s_up); (· (first | (simp only [upds, List.set_cons_zero, List.set_cons_succ, Option.getD_some, e1]; done) | (simp only [upds, List.set_cons_zero, List.set_cons_succ, Option.getD_some, e1]; rfl)))); o_attr
          obtain ⟨v, rfl⟩ : ∃ v : Nat, u = (v : Int) := ⟨u.toNat, by omega⟩
          refine s_ixL rfl (ptsAt (i := v) (by omega)) ?_
          o_attr
          o_args
          o_attr
          exact hK _ ⟨l, _, _, _, rfl, hP, by omega, (hps _ (getD_mem (by omega))).1, (hps _ (getD_mem (by omega))).2⟩
        · exact hK _ ⟨l, _, p, _, rfl, hP, by omega, hpl, hpf⟩
      · exact hK _ ⟨l, c', p, _, rfl, hP, by omega, hpl, hpf⟩
    clear hpl hpf hP hc' c' l p
    rintro st ⟨l, c', p, d9, rfl, hP, hc', hpl, hpf⟩
    have hpl0 : (List.map PyData.int p).length = m := by rw [List.length_map, hpl]
    with_reducible refine s_seqCut (J 100) (fun K hK => ?_) ?_
    · o_attr
      · refine s_ixL rfl (atI_neg1 (by omega)) ?_
        o_attr
        refine s_sumL p rfl rfl ?_
        o_attr
        refine s_subK rfl (by rw [List.length_map]; exact ixN_neg1 (by omega)) (iset p _ _) (by first | (simp only [List.set_cons_succ, List.set_cons_zero]; done) | (simp only [List.set_cons_succ, List.set_cons_zero]; rfl)) ?_
        o_attr
        exact hK _ ⟨l, c', _, _, rfl, hP, by omega, by rw [List.length_set]; exact hpl, far_set hpf ⟨by omega, by omega⟩⟩
      · exact hK _ ⟨l, c', p, _, rfl, hP, by omega, hpl, hpf⟩
    clear hpl0 hpl hpf hP hc' c' l p d9
    rintro st ⟨l, c', p, d9, rfl, hP, hc', hpl, hpf⟩
    have hpl0 : (List.map PyData.int p).length = m := by rw [List.length_map, hpl]
    with_reducible refine s_seqCut (J 150) (fun K hK => ?_) ?_
    · o_attr
      · refine ⟨_, _, _, hP, by omega, by omega, by omega, rfl, fun l t ds1 hP h0t h1t e1 => ?_⟩; ((with_reducible apply s_up); (· (first | (simp only [upds, List.set_cons_zero, List.set_cons_succ, Option.getD_some, e1]; done) | (simp only [upds, List.set_cons_zero, List.set_cons_succ, Option.getD_some, e1]; rfl)))); o_attr
        have hsq := sq_small (x := t - 30) (by omega) (by omega)
        o_args
        o_attr
        refine s_subK rfl (by rw [List.length_map]; exact ixN_ok (i := 0) (by omega)) (iset p 0 _) (by first | (simp only [List.set_cons_succ, List.set_cons_zero]; done) | (simp only [List.set_cons_succ, List.set_cons_zero]; rfl)) ?_
        o_attr
        refine s_subK rfl (by rw [List.length_map]; exact ixN_neg1 (by rw [List.length_set]; omega)) (iset (p.set 0 (t - 30)) _ _) (by first | (simp only [List.set_cons_succ, List.set_cons_zero]; done) | (simp only [List.set_cons_succ, List.set_cons_zero]; rfl)) ?_
        o_attr
        exact hK _ ⟨l, _, _, _, rfl, hP, by omega, by rw [List.length_set, List.length_set]; exact hpl, far_set (far_set hpf ⟨by omega, by omega⟩) ⟨by omega, by omega⟩⟩
      · exact hK _ ⟨l, c', p, _, rfl, hP, by omega, hpl, hpf⟩
    clear hpl0 hpl hpf hP hc' c' l p d9
    rintro st ⟨l, c', p, d9, rfl, hP, hc', hpl, hpf⟩
    o_attr
    rw [show List.map pt ps ++ [PyData.tuple (List.map PyData.int p)] = List.map pt (ps ++ [p]) by simp]
    exact hK _ ⟨l, c', ps ++ [p], _, _, _, hP, by omega, by rw [List.length_append, List.length_singleton]; omega, fun p' hp' => by
      rcases List.mem_append.mp hp' with h | h
      · exact hps p' h
      · rw [List.mem_singleton.mp h]; exact ⟨hpl, hpf⟩, rfl⟩ trivial
  · rintro st ⟨l, c, ps, d7, d8, d9, hP, hc, hl, hps, rfl⟩
    simp only [List.length_nil] at hc hl
    o_attr
    exact q _ _ _ (hP.mono (by omega)) (by omega) hps rfl
/-! _law_a_lean -/
def S__law_a_lean : VSp := fun ds Q _ => ∃ (l : List PyData) (n : Nat) (kind : Int), Pot n l ∧ n < 2 ^ 18 ∧ 0 ≤ kind ∧ kind < 6 ∧ ds = [.ow l, .fr (.int kind)] ∧ ∀ l' x ds', Pot (n + 3) l' → 0 ≤ x → x ≤ 1000000000 → ds'[0]? = some (.ow l') → Q (.fr (.int x)) ds'
theorem len__law_a_lean : ∀ ds Q E, S__law_a_lean ds Q E → ds.length = 2 := by rintro _ _ _ ⟨_, _, _, _, _, _, _, rfl, _⟩; rfl
abbrev N__law_a_lean : List Str := ["bag", "kind"]
def t__law_a_lean : DTS := (cSeq (cIfS (cTst (c2 (gEq false) (cVar 1) (cK (.fr (.int 0))))) (cRet (cFrz (cCall [0] S__law_draw (cCons (cVar 0) (cCons (cK (.fr (.int 2))) cNil))))) cNext) (cSeq (cIfS (cTst (c2 (gEq false) (cVar 1) (cK (.fr (.int 1))))) (cRet (cFrz (cCall [0] S__law_draw (cCons (cVar 0) (cCons (cK (.fr (.int 10))) cNil))))) cNext) (cSeq (cIfS (cTst (c2 (gEq false) (cVar 1) (cK (.fr (.int 2))))) (cRet (cFrz (cCall [0] S__law_wide (cCons (cVar 0) (cCons (c2 gAdd (c2 kPow (cK (.fr (.int 10))) (cK (.fr (.int 9)))) (cK (.fr (.int 1)))) cNil))))) cNext) (cSeq (cIfS (cTst (c2 (gEq false) (cVar 1) (cK (.fr (.int 3))))) (cRet (c2 kSub (c2 kPow (cK (.fr (.int 10))) (cK (.fr (.int 9)))) (cCall [0] S__law_draw (cCons (cVar 0) (cCons (cK (.fr (.int 3))) cNil))))) cNext) (cRet (c2 kSub (cVar 1) (cK (.fr (.int 4)))))))))
theorem r__law_a_lean : ∀ ds Q0 E0, S__law_a_lean ds Q0 E0 → t__law_a_lean (dEnds Q0) (ds ++ List.replicate (N__law_a_lean.length - 2) .gone) := by
  rintro ds Q0 E0 ⟨l, n, kind, hP, hn, h0, h5, rfl, q⟩
  simp only [N__law_a_lean, List.length_cons, List.length_nil, List.cons_append, List.nil_append, Nat.reduceAdd, Nat.reduceSub, Nat.zero_add, List.replicate_succ, List.replicate_zero]; unfold t__law_a_lean
  o_attr
  · refine ⟨_, _, _, hP, by omega, by omega, by omega, rfl, fun l x ds1 hP h0x h1x e1 => ?_⟩; ((with_reducible apply s_up); (· (first | (simp only [upds, List.set_cons_zero, List.set_cons_succ, Option.getD_some, e1]; done) | (simp only [upds, List.set_cons_zero, List.set_cons_succ, Option.getD_some, e1]; rfl)))); o_attr
    exact q _ _ _ (hP.mono (by omega)) (by omega) (by omega) rfl
  · refine ⟨_, _, _, hP, by omega, by omega, by omega, rfl, fun l x ds1 hP h0x h1x e1 => ?_⟩; ((with_reducible apply s_up); (· (first | (simp only [upds, List.set_cons_zero, List.set_cons_succ, Option.getD_some, e1]; done) | (simp only [upds, List.set_cons_zero, List.set_cons_succ, Option.getD_some, e1]; rfl)))); o_attr
    exact q _ _ _ (hP.mono (by omega)) (by omega) (by omega) rfl
  · refine ⟨_, _, _, hP, by omega, by omega, rfl, fun l x ds1 hP h0x h1x e1 => ?_⟩
    ((with_reducible apply s_up); (· (first | (simp only [upds, List.set_cons_zero, List.set_cons_succ, Option.getD_some, e1]; done) | (simp only [upds, List.set_cons_zero, List.set_cons_succ, Option.getD_some, e1]; rfl))))
    o_attr
    exact q _ _ _ (hP.mono (by omega)) (by omega) (by omega) rfl
  · refine ⟨_, _, _, hP, by omega, by omega, by omega, rfl, fun l x ds1 hP h0x h1x e1 => ?_⟩; ((with_reducible apply s_up); (· (first | (simp only [upds, List.set_cons_zero, List.set_cons_succ, Option.getD_some, e1]; done) | (simp only [upds, List.set_cons_zero, List.set_cons_succ, Option.getD_some, e1]; rfl)))); o_attr
    exact q _ _ _ (hP.mono (by omega)) (by omega) (by omega) rfl
  · exact q _ _ _ (hP.mono (by omega)) (by omega) (by omega) rfl
/-! _law_some_leans -/
def S__law_some_leans : VSp := fun ds Q _ => ∃ (l : List PyData) (n m : Nat), Pot n l ∧ n < 2 ^ 17 ∧ 1 ≤ m ∧ m ≤ 4 ∧ ds = [.ow l, .fr (.int (m : Nat))] ∧ ∀ l' ls ds', Pot (n + 100) l' → ls.length = m → leansB m ls = true → ds'[0]? = some (.ow l') → Q (.fr (pt ls)) ds'
theorem len__law_some_leans : ∀ ds Q E, S__law_some_leans ds Q E → ds.length = 2 := by rintro _ _ _ ⟨_, _, _, _, _, _, _, rfl, _⟩; rfl
theorem leansB_of {m : Nat} {ls : List Int} (h1 : ls.length = m) (h2 : ∀ x ∈ ls, 0 ≤ x ∧ x ≤ 1000000000) (h3 : ∃ x ∈ ls, 0 < x) : leansB m ls = true := by
  unfold leansB
  rw [decide_eq_true h1, Bool.true_and, Bool.and_eq_true, List.all_eq_true, List.any_eq_true]
  obtain ⟨x, hx, h⟩ := h3
  exact ⟨fun x hx => decide_eq_true (h2 x hx), x, hx, decide_eq_true h⟩
abbrev N__law_some_leans : List Str := ["bag", "measures", "kind", "found", "measure"]
def t__law_some_leans : DTS := (cSeq (cAsg (cFrz (cCall [0] S__law_draw (cCons (cVar 0) (cCons (cK (.fr (.int 6))) cNil)))) (gNm 2)) (cSeq (cAsg (cLc [] [4] (cRng1 (cCons (cVar 1) cNil)) (gNm 4) cYes (cFrz (cCall [0] S__law_a_lean (cCons (cVar 0) (cCons (cVar 2) cNil))))) (gNm 3)) (cSeq (cIfS (cTst (c2 (gEq false) (cVar 3) (c2 gRepA (cLst (cCons (cK (.fr (.int 0))) cNil)) (cVar 1)))) (cAsg (cFrz (c2 gAdd (cK (.fr (.int 1))) (cCall [0] S__law_draw (cCons (cVar 0) (cCons (cK (.fr (.int 9))) cNil))))) (gSub (cVar 3) (cCall [0] S__law_draw (cCons (cVar 0) (cCons (cVar 1) cNil))))) cNext) (cRet (cFn (g1 gTpl) (cCons (cVar 3) cNil))))))
theorem r__law_some_leans : ∀ ds Q0 E0, S__law_some_leans ds Q0 E0 → t__law_some_leans (dEnds Q0) (ds ++ List.replicate (N__law_some_leans.length - 2) .gone) := by
  rintro ds Q0 E0 ⟨l, n, m, hP, hn, hm1, hm4, rfl, q⟩
  simp only [N__law_some_leans, List.length_cons, List.length_nil, List.cons_append, List.nil_append, Nat.reduceAdd, Nat.reduceSub, Nat.zero_add, List.replicate_succ, List.replicate_zero]; unfold t__law_some_leans
  o_attr
  refine ⟨_, _, _, hP, by omega, by omega, by omega, rfl, fun l kind ds1 hP h0kind h1kind e1 => ?_⟩; ((with_reducible apply s_up); (· (first | (simp only [upds, List.set_cons_zero, List.set_cons_succ, Option.getD_some, e1]; done) | (simp only [upds, List.set_cons_zero, List.set_cons_succ, Option.getD_some, e1]; rfl)))); o_attr
  o_args
  o_attr
  refine s_rng1K (by omega) (by omega) ?_
  o_attr
  refine s_lcInv (List.range m) (fun (i : Nat) => .int (i : Int)) (fun l' acc st => ∃ l c ys, st = [.ow l, .fr (.int (m : Nat)), .fr (.int kind), .gone, .gone] ∧ Pot c l ∧ c + 3 * l'.length ≤ n + 1 + 3 * m ∧ acc = ys.map PyData.int ∧ ys.length + l'.length = m ∧ ∀ y ∈ ys, 0 ≤ y ∧ y ≤ 1000000000) (rngN m) rfl trivial (by rw [List.length_range]; exact small (k := 4) hm4) ⟨l, _, [], rfl, hP, by rw [List.length_range]; omega, rfl, by rw [List.length_range]; exact Nat.zero_add _, by simp⟩ ?_ ?_
  · rintro y l' acc st ⟨l, c', ys, rfl, hP, hc, rfl, hl, hys⟩ K hK
    rw [List.length_cons] at hc hl
    o_norm
    refine ⟨l, c', kind, hP, by omega, h0kind, h1kind, rfl, fun l z ds1 hP h0z h1z e1 => ?_⟩
    ((with_reducible apply s_up); (· (first | (simp only [upds, List.set_cons_zero, List.set_cons_succ, Option.getD_some, e1]; done) | (simp only [upds, List.set_cons_zero, List.set_cons_succ, Option.getD_some, e1]; rfl))))
    o_attr
    exact hK _ _ ⟨l, _, ys ++ [z], rfl, hP, by omega, by simp, by rw [List.length_append, List.length_singleton]; omega, fun y hy => by
      rcases List.mem_append.mp hy with h | h
      · exact hys y h
      · rw [List.mem_singleton.mp h]; exact ⟨h0z, h1z⟩⟩ trivial
  · rintro acc st ⟨l, c', ys, rfl, hP, hc, rfl, hl, hys⟩
    simp only [List.length_nil] at hc hl
    o_norm
    refine s_repL1 (by omega) ?_
    rw [show List.replicate m (PyData.int 0) = (List.replicate m (0 : Int)).map .int by rw [List.map_replicate]]
    o_attr
    · refine ⟨_, _, _, hP, by omega, by omega, by omega, rfl, fun l v ds1 hP h0v h1v e1 => ?_⟩; ((with_reducible apply s_up); (· (first | (simp only [upds, List.set_cons_zero, List.set_cons_succ, Option.getD_some, e1]; done) | (simp only [upds, List.set_cons_zero, List.set_cons_succ, Option.getD_some, e1]; rfl)))); o_attr
      refine ⟨_, _, _, hP, by omega, by omega, by omega, rfl, fun l u ds1 hP h0u h1u e1 => ?_⟩; ((with_reducible apply s_up); (· (first | (simp only [upds, List.set_cons_zero, List.set_cons_succ, Option.getD_some, e1]; done) | (simp only [upds, List.set_cons_zero, List.set_cons_succ, Option.getD_some, e1]; rfl)))); o_attr
      obtain ⟨w, rfl⟩ : ∃ w : Nat, u = (w : Int) := ⟨u.toNat, by omega⟩
      have hw : w < ys.length := by omega
      refine s_subK rfl (by rw [List.length_map]; exact ixN_ok hw) (iset ys w _) (by first | (simp only [List.set_cons_succ, List.set_cons_zero]; done) | (simp only [List.set_cons_succ, List.set_cons_zero]; rfl)) ?_
      o_attr
      refine q _ _ _ (hP.mono (by omega)) (by rw [List.length_set]; omega) (leansB_of (by rw [List.length_set]; omega) (fun x hx => ?_) ⟨1 + v, ?_, by omega⟩) rfl
      · rcases List.mem_or_eq_of_mem_set hx with h | h
        · exact hys x h
        · rw [h]; omega
      · have := List.getElem_mem (l := ys.set w (1 + v)) (n := w) (by rw [List.length_set]; exact hw)
        rw [List.getElem_set_self] at this
        exact this
    · refine q _ _ _ (hP.mono (by omega)) (by omega) (leansB_of (by omega) hys (Classical.byContradiction fun hn => h ?_)) rfl
      refine List.eq_replicate_iff.mpr ⟨by omega, fun x hx => ?_⟩
      have h1 := hys x hx
      have h2 : ¬ 0 < x := fun h => hn ⟨x, hx, h⟩
      omega
/-! _law_asked -/
--I X31
/-- what door 0 to 6 tells; good, or the class of the refusal -/
def S__law_asked : VSp := fun ds Q E => ∃ (door : Int) (m : Nat) (ps : List (List Int)) (x y : List Int) (z : PyData) (w : Str), 0 ≤ door ∧ door ≤ 6 ∧ Pts ps ∧ 1 ≤ m ∧ m ≤ 4 ∧ ps.length ≤ 24 ∧ (∀ p ∈ ps, p.length = m) ∧ (∀ p ∈ ps, ∀ x ∈ p, FarI x) ∧ x.length ≤ 10 ∧ y.length ≤ 10 ∧ ds = [.fr (.int door), .fr (.tuple [.int (m : Nat), pts ps]), .fr (pt x), .fr (pt y), .fr z] ∧
  (0 ≤ door ∧ door ≤ 2 → w = "NoWeights" ∧ (leansB m x = false ∨ (1 ≤ door ∧ leansB m y = false)) ∨ w = "" ∧ leansB m x = true ∧ leansB m y = true) ∧
  (3 ≤ door ∧ door ≤ 5 → w = "NoOrder" ∧ ordB m x = false ∨ w = "" ∧ x = (List.range m).map fun (k : Nat) => (k : Int)) ∧
  (door = 6 → (m ≠ 2 ∧ w = "NoMeasures") ∨ (m = 2 ∧ (∃ k : Int, z = .int k ∧ ((k < 1 ∨ 10 ^ 12 < k) ∧ w = "NoNumber" ∨ k = 1 ∧ w = "")))) ∧
  (door = 2 → ∃ (T : List Ln) (B : List (List Int)), T.length ≤ 1000 ∧ (∀ t ∈ T, FX t) ∧ B.length ≤ 5000 ∧ z = .tuple [.tuple (T.map lnD), pts B]) ∧
  (w = "" → ∀ r ds', Q (.fr r) ds') ∧ (w ≠ "" → ∀ ds', E ⟨w, none⟩ ds')
theorem len__law_asked : ∀ ds Q E, S__law_asked ds Q E → ds.length = 5 := by rintro _ _ _ ⟨_, _, _, _, _, _, _, _, _, _, _, _, _, _, _, _, _, rfl, _⟩; rfl
abbrev N__law_asked : List Str := ["door", "book", "one", "other", "thing"]
def t__law_asked (EX : Xn → List Vl → Prop) : DTS := (cSeq (cIfS (cTst (c2 (gEq false) (cVar 0) (cK (.fr (.int 0))))) (cRet (cFrz (cCallX [] S_best_by EX (cCons (cVar 1) (cCons (cVar 2) cNil))))) cNext) (cSeq (cIfS (cTst (c2 (gEq false) (cVar 0) (cK (.fr (.int 1))))) (cRet (cFrz (cCallX [] S_way_of EX (cCons (cVar 1) (cCons (cVar 2) (cCons (cVar 3) cNil)))))) cNext) (cSeq (cIfS (cTst (c2 (gEq false) (cVar 0) (cK (.fr (.int 2))))) (cRet (cFrz (cCallX [] S_way_right EX (cCons (cVar 1) (cCons (cVar 2) (cCons (cVar 3) (cCons (cVar 4) cNil))))))) cNext) (cSeq (cIfS (cTst (c2 (gEq false) (cVar 0) (cK (.fr (.int 3))))) (cRet (cFrz (cCallX [] S_sorted_by EX (cCons (cVar 1) (cCons (cVar 2) cNil))))) cNext) (cSeq (cIfS (cTst (c2 (gEq false) (cVar 0) (cK (.fr (.int 4))))) (cRet (cFrz (cCallX [] S_weights_by EX (cCons (cVar 1) (cCons (cVar 2) cNil))))) cNext) (cSeq (cIfS (cTst (c2 (gEq false) (cVar 0) (cK (.fr (.int 5))))) (cRet (cFrz (cCallX [] S_go_by EX (cCons (cVar 1) (cCons (cVar 2) (cCons (cVar 3) cNil)))))) cNext) (cRet (cFrz (cCallX [] S_shares EX (cCons (cVar 1) (cCons (cVar 4) cNil)))))))))))
theorem r__law_asked : ∀ ds Q0 E0, S__law_asked ds Q0 E0 → t__law_asked E0 (dEnds Q0) (ds ++ List.replicate (N__law_asked.length - 5) .gone) := by
  rintro ds Q0 E0 ⟨door, m, ps, x, y, z, w, hd0, hd6, hp, hm1, hm4, hps, hpm, hf, hx, hy, rfl, k1, k2, k3, k4, q, e⟩
  simp only [N__law_asked, List.length_cons, List.length_nil, List.cons_append, List.nil_append, Nat.reduceAdd, Nat.reduceSub, Nat.zero_add, List.replicate_succ, List.replicate_zero]; unfold t__law_asked
  o_attr
  · rcases k1 ⟨hd0, by omega⟩ with ⟨rfl, hx2 | ⟨hx2, _⟩⟩ | ⟨rfl, hx2, hy2⟩
    · refine ⟨m, ps, x, hp, hf, by omega, rfl, .inr ⟨hx2, fun ds' => ?_⟩⟩
      o_attr
      exact e (by decide) _
    · omega
    · refine ⟨m, ps, x, hp, hf, by omega, rfl, .inl ⟨hx2, fun ds' => ?_⟩⟩
      o_attr
      exact q rfl _ _
  · rcases k1 ⟨hd0, by omega⟩ with ⟨rfl, hx2⟩ | ⟨rfl, hx2, hy2⟩
    · refine ⟨m, ps, x, y, hp, hf, by omega, by omega, rfl, .inr ⟨by rcases hx2 with hx2 | ⟨_, hx2⟩ <;> rw [hx2] <;> simp, fun ds' => ?_⟩⟩
      o_attr
      exact e (by decide) _
    · refine ⟨m, ps, x, y, hp, hf, by omega, by omega, rfl, .inl ⟨hx2, hy2, lnBnd hm4 hf hx2 hy2, fun ds' _ => ?_⟩⟩
      o_attr
      exact q rfl _ _
  · obtain ⟨T, B, t1, t2, t3, rfl⟩ := k4 ‹_›
    rcases k1 ⟨hd0, by omega⟩ with ⟨rfl, hx2⟩ | ⟨rfl, hx2, hy2⟩
    · refine ⟨m, ps, x, y, T, B, hp, hf, by omega, by omega, t1, t2, t3, rfl, .inr ⟨by rcases hx2 with hx2 | ⟨_, hx2⟩ <;> rw [hx2] <;> simp, fun ds' => ?_⟩⟩
      o_attr
      exact e (by decide) _
    · refine ⟨m, ps, x, y, T, B, hp, hf, by omega, by omega, t1, t2, t3, rfl, .inl ⟨hx2, hy2, lnBnd hm4 hf hx2 hy2, fun ds' => ?_⟩⟩
      o_attr
      exact q rfl _ _
  · rcases k2 ⟨by omega, by omega⟩ with ⟨rfl, hx2⟩ | ⟨rfl, rfl⟩
    · refine ⟨m, ps, by omega, .inr ⟨x, by omega, hx2, rfl, fun ds' => ?_⟩⟩
      o_attr
      exact e (by decide) _
    · refine ⟨m, ps, by omega, .inl ⟨List.range m, hps, List.Perm.refl _, hpm, by rw [ptN_eq]; rfl, fun ds' => ?_⟩⟩
      o_attr
      exact q rfl _ _
  · rcases k2 ⟨by omega, by omega⟩ with ⟨rfl, hx2⟩ | ⟨rfl, rfl⟩
    · refine ⟨m, ps, by omega, by omega, .inr ⟨x, by omega, hx2, rfl, fun ds' => ?_⟩⟩
      o_attr
      exact e (by decide) _
    · refine ⟨m, ps, by omega, by omega, .inl ⟨List.range m, hps, List.Perm.refl _, hpm, hf, by rw [ptN_eq]; rfl, fun ds' => ?_⟩⟩
      o_attr
      exact q rfl _ _
  · rcases k2 ⟨by omega, by omega⟩ with ⟨rfl, hx2⟩ | ⟨rfl, rfl⟩
    · refine ⟨m, ps, y, by omega, hy, .inr ⟨x, by omega, hx2, rfl, fun ds' => ?_⟩⟩
      o_attr
      exact e (by decide) _
    · refine ⟨m, ps, y, by omega, hy, .inl ⟨List.range m, hps, List.Perm.refl _, hpm, hf, by rw [ptN_eq]; rfl, fun ds' => ?_⟩⟩
      o_attr
      exact q rfl _ _
  · rcases k3 (by omega) with ⟨hm2, rfl⟩ | ⟨rfl, k, rfl, ⟨hk, rfl⟩ | ⟨rfl, rfl⟩⟩
    · refine .inr (.inl ⟨m, ps, z, hm2, rfl, fun ds' => ?_⟩)
      o_attr
      exact e (by decide) _
    · refine .inr (.inr ⟨ps, k, hk, rfl, fun ds' => ?_⟩)
      o_attr
      exact e (by decide) _
    · have e2 : (ps.map fun p => (p.getD 0 0, p.getD 1 0)).map ptX = ps := by
        rw [List.map_map]
        refine (List.map_congr_left fun p h => ?_).trans (List.map_id _)
        exact (getD2 (hpm p h)).symm
      refine .inl ⟨1, ps.map fun p => (p.getD 0 0, p.getD 1 0), by rw [List.length_map]; omega, by omega, by omega, fun x hx => ?_, by rw [e2]; rfl, fun ds' => ?_⟩
      · obtain ⟨p, h, rfl⟩ := List.mem_map.mp hx
        have h2 := getD2 (hpm p h)
        have h3 := hf p h
        rw [h2] at h3
        exact ⟨h3 _ (by simp), h3 _ (by simp)⟩
      · o_attr
        exact q rfl _ _
/-! _law_refused_as -/
--I X31
def wordOf (w : Str) : Str := if w = "" then "told" else if w = "NoWeights" then "weights" else if w = "NoOrder" then "order" else if w = "NoMeasures" then "measures" else "number"
def S__law_refused_as : VSp := fun ds Q _ => ∃ (w : Str), (w = "" ∨ w = "NoWeights" ∨ w = "NoOrder" ∨ w = "NoMeasures" ∨ w = "NoNumber") ∧ ds.length = 5 ∧ (∀ d ∈ ds, ∃ x, d = .fr x) ∧ (∀ Q2 E2, (w = "" → ∀ r ds', Q2 (.fr r) ds') → (w ≠ "" → ∀ ds', E2 ⟨w, none⟩ ds') → S__law_asked ds Q2 E2) ∧ ∀ ds', Q (.fr (.str (wordOf w))) ds'
theorem len__law_refused_as : ∀ ds Q E, S__law_refused_as ds Q E → ds.length = 5 := by rintro _ _ _ ⟨_, _, h, _, _⟩; exact h
abbrev N__law_refused_as : List Str := ["door", "book", "one", "other", "thing", "caught", "e", "kinds", "odd"]
def t__law_refused_as : DTS := (cSeq (cAsg (cK (.fr .none)) (gNm 5)) (cSeq (cTry 6 ["NoMeasures", "NoNumber", "NoOrder", "NoWeights"] (fun EX1 => (cDrop (cCallX [] S__law_asked EX1 (cCons (cVar 0) (cCons (cVar 1) (cCons (cVar 2) (cCons (cVar 3) (cCons (cVar 4) cNil)))))))) (cAsg (cVar 6) (gNm 5))) (cSeq (cIfS (cTst (c2 (gIsN false) (cVar 5) (cK (.fr .none)))) (cRet (cK (.fr (.str "told")))) cNext) (cSeq (cAsg (cLst (cCons (cIsX ["NoCorners", "NoDeed", "NoKin", "NoLine", "NoLoss", "NoLot", "NoPoint", "NoRow", "NoTable", "NoText", "NoWindow", "NoWeights", "NoOrder", "NoMeasures", "NoNumber", "TooMany"] ["NoWeights"] (cVar 5)) (cCons (cIsX ["NoCorners", "NoDeed", "NoKin", "NoLine", "NoLoss", "NoLot", "NoPoint", "NoRow", "NoTable", "NoText", "NoWindow", "NoWeights", "NoOrder", "NoMeasures", "NoNumber", "TooMany"] ["NoOrder"] (cVar 5)) (cCons (cIsX ["NoCorners", "NoDeed", "NoKin", "NoLine", "NoLoss", "NoLot", "NoPoint", "NoRow", "NoTable", "NoText", "NoWindow", "NoWeights", "NoOrder", "NoMeasures", "NoNumber", "TooMany"] ["NoMeasures"] (cVar 5)) cNil)))) (gNm 7)) (cSeq (cDrop (cMth' gApp (cVar 7) (cCons (cIsX ["NoCorners", "NoDeed", "NoKin", "NoLine", "NoLoss", "NoLot", "NoPoint", "NoRow", "NoTable", "NoText", "NoWindow", "NoWeights", "NoOrder", "NoMeasures", "NoNumber", "TooMany"] ["NoNumber"] (cVar 5)) cNil))) (cSeq (cAsg (cIsX ["NoCorners", "NoDeed", "NoKin", "NoLine", "NoLoss", "NoLot", "NoPoint", "NoRow", "NoTable", "NoText", "NoWindow", "NoWeights", "NoOrder", "NoMeasures", "NoNumber", "TooMany"] ["NoCorners", "NoDeed", "NoKin", "NoLine", "NoLoss", "NoLot", "NoPoint", "NoRow", "NoTable", "NoText", "NoWindow"] (cVar 5)) (gNm 8)) (cSeq (cIfS (cOr (cTst (cVar 8)) (cOr (cTst (cIsX ["NoCorners", "NoDeed", "NoKin", "NoLine", "NoLoss", "NoLot", "NoPoint", "NoRow", "NoTable", "NoText", "NoWindow", "NoWeights", "NoOrder", "NoMeasures", "NoNumber", "TooMany"] ["TooMany"] (cVar 5))) (cOr (cNot (cTst (cIsX ["NoCorners", "NoDeed", "NoKin", "NoLine", "NoLoss", "NoLot", "NoPoint", "NoRow", "NoTable", "NoText", "NoWindow", "NoWeights", "NoOrder", "NoMeasures", "NoNumber", "TooMany"] ["ValueError"] (cVar 5)))) (cTst (c2 (gEq true) (cCntB true (cVar 7)) (cK (.fr (.int 1)))))))) (cRet (cK (.fr (.str "odd")))) cNext) (cRet (c2 gIx (cLst (cCons (cK (.fr (.str "weights"))) (cCons (cK (.fr (.str "order"))) (cCons (cK (.fr (.str "measures"))) (cCons (cK (.fr (.str "number"))) cNil))))) (cIdxB true (cVar 7)))))))))))
theorem r__law_refused_as : ∀ ds Q0 E0, S__law_refused_as ds Q0 E0 → t__law_refused_as (dEnds Q0) (ds ++ List.replicate (N__law_refused_as.length - 5) .gone) := by
  rintro ds Q0 E0 ⟨w, hw, hl, hd, hS, q⟩
  obtain ⟨a1, a2, a3, a4, a5, rfl⟩ : ∃ a1 a2 a3 a4 a5, ds = [a1, a2, a3, a4, a5] := by
    match ds, hl with
    | [a1, a2, a3, a4, a5], _ => exact ⟨_, _, _, _, _, rfl⟩
  obtain ⟨x1, rfl⟩ := hd a1 (by simp)
  obtain ⟨x2, rfl⟩ := hd a2 (by simp)
  obtain ⟨x3, rfl⟩ := hd a3 (by simp)
  obtain ⟨x4, rfl⟩ := hd a4 (by simp)
  obtain ⟨x5, rfl⟩ := hd a5 (by simp)
  simp only [N__law_refused_as, List.length_cons, List.length_nil, List.cons_append, List.nil_append, Nat.reduceAdd, Nat.reduceSub, Nat.zero_add, List.replicate_succ, List.replicate_zero]; unfold t__law_refused_as
  o_norm
  refine hS _ _ (fun h0 r ds' => ?_) (fun h0 ds' => ?_)
  · subst h0
    o_norm
    exact q _
  · rcases hw with rfl | rfl | rfl | rfl | rfl
    · exact absurd rfl h0
    · o_norm
      refine ⟨[true, false, false, false], rfl, ?_⟩
      o_norm
      · refine ⟨[true, false, false, false], 0, rfl, rfl, ahead_of (by decide), ?_⟩
        refine s_ixL (x := .str "weights") rfl (by rfl) ?_
        o_norm
        exact q _
      · exact absurd rfl h
    · o_norm
      refine ⟨[false, true, false, false], rfl, ?_⟩
      o_norm
      · refine ⟨[false, true, false, false], 1, rfl, rfl, ahead_of (by decide), ?_⟩
        refine s_ixL (x := .str "order") rfl (by rfl) ?_
        o_norm
        exact q _
      · exact absurd rfl h
    · o_norm
      refine ⟨[false, false, true, false], rfl, ?_⟩
      o_norm
      · refine ⟨[false, false, true, false], 2, rfl, rfl, ahead_of (by decide), ?_⟩
        refine s_ixL (x := .str "measures") rfl (by rfl) ?_
        o_norm
        exact q _
      · exact absurd rfl h
    · o_norm
      refine ⟨[false, false, false, true], rfl, ?_⟩
      o_norm
      · refine ⟨[false, false, false, true], 3, rfl, rfl, ahead_of (by decide), ?_⟩
        refine s_ixL (x := .str "number") rfl (by rfl) ?_
        o_norm
        exact q _
      · exact absurd rfl h
/-! _law_no_leans -/
--I X31
def S__law_no_leans : VSp := fun ds Q _ => ∃ (l : List PyData) (n m : Nat) (ls : List Int), Pot n l ∧ n < 2 ^ 17 ∧ 1 ≤ m ∧ m ≤ 4 ∧ leansB m ls = true ∧ ds = [.ow l, .fr (pt ls)] ∧ ∀ l' xs ds', Pot (n + 10) l' → xs.length ≤ 10 → leansB m xs = false → ds'[0]? = some (.ow l') → Q (.fr (pt xs)) ds'
theorem len__law_no_leans : ∀ ds Q E, S__law_no_leans ds Q E → ds.length = 2 := by rintro _ _ _ ⟨_, _, _, _, _, _, _, _, _, rfl, _⟩; rfl
abbrev N__law_no_leans : List Str := ["bag", "leans", "which", "at", "far", "one"]
def t__law_no_leans : DTS := (cSeq (cAsg (cFrz (cCall [0] S__law_draw (cCons (cVar 0) (cCons (cK (.fr (.int 8))) cNil)))) (gNm 2)) (cSeq (cAsg (cFrz (cCall [0] S__law_draw (cCons (cVar 0) (cCons (cFn (g1 gLen) (cCons (cVar 1) cNil)) cNil)))) (gNm 3)) (cSeq (cAsg (cFrz (c2 kMul (cCall [0] S__law_wide (cCons (cVar 0) (cCons (c2 kPow (cK (.fr (.int 10))) (cK (.fr (.int 10)))) cNil))) (c2 kPow (cK (.fr (.int 10))) (cK (.fr (.int 40)))))) (gNm 4)) (cSeq (cAsg (c2 gIx (cLst (cCons (c1 gNeg (cK (.fr (.int 1)))) (cCons (c2 gAdd (c2 kPow (cK (.fr (.int 10))) (cK (.fr (.int 9)))) (cK (.fr (.int 1)))) (cCons (c2 kSub (c2 kSub (cK (.fr (.int 0))) (cK (.fr (.int 1)))) (cVar 4)) (cCons (c2 gAdd (c2 gAdd (c2 kPow (cK (.fr (.int 10))) (cK (.fr (.int 9)))) (cK (.fr (.int 1)))) (cVar 4)) cNil))))) (c2 kMod (cVar 2) (cK (.fr (.int 4))))) (gNm 5)) (cSeq (cIfS (cTst (c2 (kLt) (cVar 2) (cK (.fr (.int 4))))) (cRet (cFrz (c2 gAdd (c2 gAdd (cSl (cVar 1) cNoP (cPt (cVar 3))) (cTup (cCons (cVar 5) cNil))) (cSl (cVar 1) (cPt (c2 gAdd (cVar 3) (cK (.fr (.int 1))))) cNoP)))) cNext) (cRet (c2 gIx (cLst (cCons (c2 gAdd (cVar 1) (cTup (cCons (cK (.fr (.int 1))) cNil))) (cCons (cFrz (cSl (cVar 1) (cPt (cK (.fr (.int 1)))) cNoP)) (cCons (cTup cNil) (cCons (c2 gRepA (cTup (cCons (cK (.fr (.int 0))) cNil)) (cFn (g1 gLen) (cCons (cVar 1) cNil))) cNil))))) (c2 kSub (cVar 2) (cK (.fr (.int 4)))))))))))
theorem lean_out {m : Nat} {xs : List Int} {x : Int} (hx : x ∈ xs) (h : x < 0 ∨ 1000000000 < x) : leansB m xs = false := by
  rw [Bool.eq_false_iff]
  intro z
  have := (leansIs z).2.1 x hx
  omega
theorem lean_len {m : Nat} {xs : List Int} (h : xs.length ≠ m) : leansB m xs = false := by
  rw [Bool.eq_false_iff]
  intro z
  exact h (leansIs z).1
theorem lean_nil {m : Nat} {xs : List Int} (h : ∀ x ∈ xs, x = 0) : leansB m xs = false := by
  rw [Bool.eq_false_iff]
  intro z
  obtain ⟨x, hx, h0⟩ := (leansIs z).2.2
  rw [h x hx] at h0
  omega
theorem r__law_no_leans : ∀ ds Q0 E0, S__law_no_leans ds Q0 E0 → t__law_no_leans (dEnds Q0) (ds ++ List.replicate (N__law_no_leans.length - 2) .gone) := by
  rintro ds Q0 E0 ⟨l, n, m, ls, hP, hn, hm1, hm4, hls, rfl, q⟩
  obtain ⟨a1, a2, a3⟩ := leansIs hls
  have hlm : (ls.map PyData.int).length = ls.length := List.length_map _
  simp only [N__law_no_leans, List.length_cons, List.length_nil, List.cons_append, List.nil_append, Nat.reduceAdd, Nat.reduceSub, Nat.zero_add, List.replicate_succ, List.replicate_zero]; unfold t__law_no_leans
  o_attr
  refine ⟨_, _, _, hP, by omega, by omega, by omega, rfl, fun l which ds1 hP h0which h1which e1 => ?_⟩; ((with_reducible apply s_up); (· (first | (simp only [upds, List.set_cons_zero, List.set_cons_succ, Option.getD_some, e1]; done) | (simp only [upds, List.set_cons_zero, List.set_cons_succ, Option.getD_some, e1]; rfl)))); o_attr
  o_args
  o_attr
  rw [hlm]
  refine ⟨_, _, _, hP, by omega, by omega, by omega, rfl, fun l at_ ds1 hP h0at_ h1at_ e1 => ?_⟩; ((with_reducible apply s_up); (· (first | (simp only [upds, List.set_cons_zero, List.set_cons_succ, Option.getD_some, e1]; done) | (simp only [upds, List.set_cons_zero, List.set_cons_succ, Option.getD_some, e1]; rfl)))); o_attr
  o_args
  o_attr
  refine ⟨_, _, _, hP, by omega, by omega, rfl, fun l far ds1 hP h0far h1far e1 => ?_⟩
  ((with_reducible apply s_up); (· (first | (simp only [upds, List.set_cons_zero, List.set_cons_succ, Option.getD_some, e1]; done) | (simp only [upds, List.set_cons_zero, List.set_cons_succ, Option.getD_some, e1]; rfl))))
  o_attr
  o_args
  o_attr
  refine s_ixI (f := fun z => z < 0 ∨ 1000000000 < z) rfl (atI_all (by omega) (by simp only [List.length_cons, List.length_nil]; omega) fun d hd => ?_) fun z hz => ?_
  · simp only [List.mem_cons, List.not_mem_nil, or_false] at hd
    rcases hd with rfl | rfl | rfl | rfl
    · exact ⟨_, rfl, by decide⟩
    · exact ⟨_, rfl, by decide⟩
    · exact ⟨_, rfl, by omega⟩
    · exact ⟨_, rfl, by omega⟩
  have fin : ∀ xs st, xs.length ≤ 10 → leansB m xs = false → st[0]? = some (.ow l) → Q0 (.fr (.tuple (xs.map .int))) st := fun xs st h1 h2 e => q l xs st (hP.mono (by omega)) h1 h2 e
  have cl : ∀ lo hi, (cutG ls lo hi).length ≤ 4 := fun lo hi => Nat.le_trans (cutG_len _ _ _) (by omega)
  have k1 := cl none (some at_)
  have k2 := cl (some (at_ + 1)) none
  have k3 := cl (some 1) none
  have hcut : ∀ lo hi, cut (ls.map PyData.int) lo hi = (cutG ls lo hi).map .int := fun lo hi => cut_map _ _ lo hi
  have cc : ∀ lo hi, (cut (ls.map PyData.int) lo hi).length ≤ 4 := fun lo hi => by rw [hcut, List.length_map]; exact cl lo hi
  have c1 := cc none (some at_)
  have c2 := cc (some (at_ + 1)) none
  have c3 := cc (some 1) none
  rw [show pt ls = .tuple (ls.map .int) from rfl]
  o_attr
  o_args
  o_attr
  · rw [hcut, hcut, show (cutG ls none (some at_)).map PyData.int ++ [PyData.int z] ++ (cutG ls (some (at_ + 1)) none).map PyData.int = (cutG ls none (some at_) ++ [z] ++ cutG ls (some (at_ + 1)) none).map .int by simp]
    exact fin _ _ (by simp only [List.length_append, List.length_singleton]; omega) (lean_out (x := z) (by simp) hz) rfl
  · refine s_repT1 (n := (ls.map PyData.int).length) (by omega) ?_
    o_attr
    refine s_ixD (f := fun p => ∃ xs : List Int, p = .tuple (xs.map .int) ∧ xs.length ≤ 10 ∧ leansB m xs = false) rfl (atI_allD (by omega) (by simp only [List.length_cons, List.length_nil]; omega) fun d hd => ?_) ?_
    · simp only [List.mem_cons, List.not_mem_nil, or_false] at hd
      rcases hd with rfl | rfl | rfl | rfl
      · exact ⟨ls ++ [1], by rw [List.map_append]; rfl, by rw [List.length_append, List.length_singleton]; omega, lean_len (by rw [List.length_append, List.length_singleton]; omega)⟩
      · refine ⟨ls.drop 1, by rw [List.map_drop]; exact congrArg _ (cut_drop (k := 1) _), by rw [List.length_drop]; omega, lean_len (by rw [List.length_drop]; omega)⟩
      · exact ⟨[], rfl, by decide, lean_nil (by simp)⟩
      · exact ⟨List.replicate ls.length 0, by rw [List.map_replicate, hlm], by rw [List.length_replicate]; omega, lean_nil fun x hx => (List.mem_replicate.mp hx).2⟩
    rintro _ ⟨xs, rfl, h1, h2⟩
    o_attr
    exact fin _ _ h1 h2 rfl
/-! _law_no_order -/
--I X31
def S__law_no_order : VSp := fun ds Q _ => ∃ (l : List PyData) (n m : Nat) (os : List Nat), Pot n l ∧ n < 2 ^ 17 ∧ 1 ≤ m ∧ m ≤ 4 ∧ Ord m os ∧ ds = [.ow l, .fr (ptN os)] ∧ ∀ l' xs ds', Pot (n + 10) l' → xs.length ≤ 10 → ordB m xs = false → ds'[0]? = some (.ow l') → Q (.fr (pt xs)) ds'
theorem len__law_no_order : ∀ ds Q E, S__law_no_order ds Q E → ds.length = 2 := by rintro _ _ _ ⟨_, _, _, _, _, _, _, _, _, rfl, _⟩; rfl
abbrev N__law_no_order : List Str := ["bag", "order", "which", "at", "far", "one"]
def t__law_no_order : DTS := (cSeq (cAsg (cFrz (cCall [0] S__law_draw (cCons (cVar 0) (cCons (cK (.fr (.int 8))) cNil)))) (gNm 2)) (cSeq (cAsg (cFrz (cCall [0] S__law_draw (cCons (cVar 0) (cCons (cFn (g1 gLen) (cCons (cVar 1) cNil)) cNil)))) (gNm 3)) (cSeq (cAsg (cFrz (c2 kMul (cCall [0] S__law_wide (cCons (cVar 0) (cCons (c2 kPow (cK (.fr (.int 10))) (cK (.fr (.int 10)))) cNil))) (c2 kPow (cK (.fr (.int 10))) (cK (.fr (.int 40)))))) (gNm 4)) (cSeq (cAsg (c2 gIx (cLst (cCons (c1 gNeg (cK (.fr (.int 1)))) (cCons (cFn (g1 gLen) (cCons (cVar 1) cNil)) (cCons (c2 gAdd (cVar 4) (cK (.fr (.int 4)))) (cCons (cFrz (cIf (cTst (c2 (kGt) (cFn (g1 gLen) (cCons (cVar 1) cNil)) (cK (.fr (.int 1))))) (c2 gIx (cVar 1) (c2 kSub (cVar 3) (cK (.fr (.int 1))))) (cK (.fr (.int 1))))) cNil))))) (c2 kMod (cVar 2) (cK (.fr (.int 4))))) (gNm 5)) (cSeq (cIfS (cTst (c2 (kLt) (cVar 2) (cK (.fr (.int 4))))) (cRet (cFrz (c2 gAdd (c2 gAdd (cSl (cVar 1) cNoP (cPt (cVar 3))) (cTup (cCons (cVar 5) cNil))) (cSl (cVar 1) (cPt (c2 gAdd (cVar 3) (cK (.fr (.int 1))))) cNoP)))) cNext) (cRet (c2 gIx (cLst (cCons (c2 gAdd (cVar 1) (cTup (cCons (cK (.fr (.int 0))) cNil))) (cCons (cFrz (cSl (cVar 1) (cPt (cK (.fr (.int 1)))) cNoP)) (cCons (cTup cNil) (cCons (c2 gAdd (cVar 1) (cTup (cCons (cFn (g1 gLen) (cCons (cVar 1) cNil)) cNil))) cNil))))) (c2 kSub (cVar 2) (cK (.fr (.int 4)))))))))))
theorem dup_pick {m : Nat} {ls : List Int} (h : ls.length = m) (h2 : 2 ≤ m) (h4 : m ≤ 4) {a : Int} (a0 : 0 ≤ a) (am : a < m) : ∃ v, atI (ls.map PyData.int) (a - 1) = some (.int v) ∧ ¬ (cutG ls none (some a) ++ [v] ++ cutG ls (some (a + 1)) none).Nodup := by
  match ls, h with
  | [], h => simp at h; omega
  | [x], h => simp at h; omega
  | [x, y], h =>
    have hm : m = 2 := h.symm
    obtain rfl | rfl : a = 0 ∨ a = 1 := by omega
    · exact ⟨y, rfl, fun z => by have z : List.Nodup [y, y] := z; simp at z⟩
    · exact ⟨x, rfl, fun z => by have z : List.Nodup [x, x] := z; simp at z⟩
  | [x, y, w], h =>
    have hm : m = 3 := h.symm
    obtain rfl | rfl | rfl : a = 0 ∨ a = 1 ∨ a = 2 := by omega
    · exact ⟨w, rfl, fun z => by have z : List.Nodup [w, y, w] := z; simp at z⟩
    · exact ⟨x, rfl, fun z => by have z : List.Nodup [x, x, w] := z; simp at z⟩
    · exact ⟨y, rfl, fun z => by have z : List.Nodup [x, y, y] := z; simp at z⟩
  | [x, y, w, u], h =>
    have hm : m = 4 := h.symm
    obtain rfl | rfl | rfl | rfl : a = 0 ∨ a = 1 ∨ a = 2 ∨ a = 3 := by omega
    · exact ⟨u, rfl, fun z => by have z : List.Nodup [u, y, w, u] := z; simp at z⟩
    · exact ⟨x, rfl, fun z => by have z : List.Nodup [x, x, w, u] := z; simp at z⟩
    · exact ⟨y, rfl, fun z => by have z : List.Nodup [x, y, y, u] := z; simp at z⟩
    · exact ⟨w, rfl, fun z => by have z : List.Nodup [x, y, w, w] := z; simp at z⟩
  | x :: y :: w :: u :: v :: r, h => simp at h; omega
theorem r__law_no_order : ∀ ds Q0 E0, S__law_no_order ds Q0 E0 → t__law_no_order (dEnds Q0) (ds ++ List.replicate (N__law_no_order.length - 2) .gone) := by
  rintro ds Q0 E0 ⟨l, n, m, os, hP, hn, hm1, hm4, ho, rfl, q⟩
  have hol := ho.len
  rw [ptN_eq]
  obtain ⟨ls, els⟩ : ∃ ls : List Int, os.map (fun (k : Nat) => (k : Int)) = ls := ⟨_, rfl⟩
  have hll : ls.length = m := by rw [← els, List.length_map]; exact hol
  rw [els]
  have hlm : (ls.map PyData.int).length = ls.length := List.length_map _
  simp only [N__law_no_order, List.length_cons, List.length_nil, List.cons_append, List.nil_append, Nat.reduceAdd, Nat.reduceSub, Nat.zero_add, List.replicate_succ, List.replicate_zero]; unfold t__law_no_order
  o_attr
  refine ⟨_, _, _, hP, by omega, by omega, by omega, rfl, fun l which ds1 hP h0which h1which e1 => ?_⟩; ((with_reducible apply s_up); (· (first | (simp only [upds, List.set_cons_zero, List.set_cons_succ, Option.getD_some, e1]; done) | (simp only [upds, List.set_cons_zero, List.set_cons_succ, Option.getD_some, e1]; rfl)))); o_attr
  o_args
  o_attr
  rw [hlm]
  refine ⟨_, _, _, hP, by omega, by omega, by omega, rfl, fun l at_ ds1 hP h0at_ h1at_ e1 => ?_⟩; ((with_reducible apply s_up); (· (first | (simp only [upds, List.set_cons_zero, List.set_cons_succ, Option.getD_some, e1]; done) | (simp only [upds, List.set_cons_zero, List.set_cons_succ, Option.getD_some, e1]; rfl)))); o_attr
  o_args
  o_attr
  refine ⟨_, _, _, hP, by omega, by omega, rfl, fun l far ds1 hP h0far h1far e1 => ?_⟩
  ((with_reducible apply s_up); (· (first | (simp only [upds, List.set_cons_zero, List.set_cons_succ, Option.getD_some, e1]; done) | (simp only [upds, List.set_cons_zero, List.set_cons_succ, Option.getD_some, e1]; rfl))))
  rw [show pt ls = .tuple (ls.map .int) from rfl]
  have fin : ∀ xs st, xs.length ≤ 10 → ordB m xs = false → st[0]? = some (.ow l) → Q0 (.fr (.tuple (xs.map .int))) st := fun xs st h1 h2 e => q l xs st (hP.mono (by omega)) h1 h2 e
  have cl : ∀ lo hi, (cutG ls lo hi).length ≤ 4 := fun lo hi => Nat.le_trans (cutG_len _ _ _) (by omega)
  have k1 := cl none (some at_)
  have k2 := cl (some (at_ + 1)) none
  have k3 := cl (some 1) none
  have hcut : ∀ lo hi, cut (ls.map PyData.int) lo hi = (cutG ls lo hi).map .int := fun lo hi => cut_map _ _ lo hi
  have cc : ∀ lo hi, (cut (ls.map PyData.int) lo hi).length ≤ 4 := fun lo hi => by rw [hcut, List.length_map]; exact cl lo hi
  have c1 := cc none (some at_)
  have c2 := cc (some (at_ + 1)) none
  have c3 := cc (some 1) none
  o_attr
  o_args
  o_attr
  · obtain ⟨v, hv1, hv2⟩ := dup_pick hll (by omega) hm4 h0at_ (by omega)
    o_attr
    refine s_ixI (f := fun z => ordB m (cutG ls none (some at_) ++ [z] ++ cutG ls (some (at_ + 1)) none) = false) rfl (atI_all (by omega) (by simp only [List.length_cons, List.length_nil]; omega) fun d hd => ?_) fun z hz => ?_
    · simp only [List.mem_cons, List.not_mem_nil, or_false] at hd
      rcases hd with rfl | rfl | rfl | rfl
      · exact ⟨_, rfl, no_out (x := -1) (by simp) (.inl (by decide))⟩
      · exact ⟨_, rfl, no_out (x := ((ls.map PyData.int).length : Nat)) (by simp) (.inr (by omega))⟩
      · exact ⟨_, rfl, no_out (x := far * 10000000000000000000000000000000000000000 + 4) (by simp) (.inr (by omega))⟩
      · exact ⟨_, rfl, no_two hv2⟩
    o_attr
    o_args
    o_attr
    · rw [hcut, hcut, show (cutG ls none (some at_)).map PyData.int ++ [PyData.int z] ++ (cutG ls (some (at_ + 1)) none).map PyData.int = (cutG ls none (some at_) ++ [z] ++ cutG ls (some (at_ + 1)) none).map .int by simp]
      exact fin _ _ (by simp only [List.length_append, List.length_singleton]; omega) hz rfl
    · refine s_ixD (f := fun p => ∃ xs : List Int, p = .tuple (xs.map .int) ∧ xs.length ≤ 10 ∧ ordB m xs = false) rfl (atI_allD (by omega) (by simp only [List.length_cons, List.length_nil]; omega) fun d hd => ?_) ?_
      · simp only [List.mem_cons, List.not_mem_nil, or_false] at hd
        rcases hd with rfl | rfl | rfl | rfl
        · exact ⟨ls ++ [0], by rw [List.map_append]; rfl, by rw [List.length_append, List.length_singleton]; omega, no_len (by rw [List.length_append, List.length_singleton]; omega)⟩
        · refine ⟨ls.drop 1, by rw [List.map_drop]; exact congrArg _ (cut_drop (k := 1) _), by rw [List.length_drop]; omega, no_len (by rw [List.length_drop]; omega)⟩
        · exact ⟨[], rfl, by decide, no_len (by simp; omega)⟩
        · exact ⟨ls ++ [(((ls.map PyData.int).length : Nat) : Int)], by rw [List.map_append]; rfl, by rw [List.length_append, List.length_singleton]; omega, no_len (by rw [List.length_append, List.length_singleton]; omega)⟩
      rintro _ ⟨xs, rfl, h1, h2⟩
      o_attr
      exact fin _ _ h1 h2 rfl
  · refine s_ixI (f := fun z => ordB m (cutG ls none (some at_) ++ [z] ++ cutG ls (some (at_ + 1)) none) = false) rfl (atI_all (by omega) (by simp only [List.length_cons, List.length_nil]; omega) fun d hd => ?_) fun z hz => ?_
    · simp only [List.mem_cons, List.not_mem_nil, or_false] at hd
      rcases hd with rfl | rfl | rfl | rfl
      · exact ⟨_, rfl, no_out (x := -1) (by simp) (.inl (by decide))⟩
      · exact ⟨_, rfl, no_out (x := ((ls.map PyData.int).length : Nat)) (by simp) (.inr (by omega))⟩
      · exact ⟨_, rfl, no_out (x := far * 10000000000000000000000000000000000000000 + 4) (by simp) (.inr (by omega))⟩
      · exact ⟨_, rfl, no_out (x := 1) (by simp) (.inr (by omega))⟩
    o_attr
    o_args
    o_attr
    · rw [hcut, hcut, show (cutG ls none (some at_)).map PyData.int ++ [PyData.int z] ++ (cutG ls (some (at_ + 1)) none).map PyData.int = (cutG ls none (some at_) ++ [z] ++ cutG ls (some (at_ + 1)) none).map .int by simp]
      exact fin _ _ (by simp only [List.length_append, List.length_singleton]; omega) hz rfl
    · refine s_ixD (f := fun p => ∃ xs : List Int, p = .tuple (xs.map .int) ∧ xs.length ≤ 10 ∧ ordB m xs = false) rfl (atI_allD (by omega) (by simp only [List.length_cons, List.length_nil]; omega) fun d hd => ?_) ?_
      · simp only [List.mem_cons, List.not_mem_nil, or_false] at hd
        rcases hd with rfl | rfl | rfl | rfl
        · exact ⟨ls ++ [0], by rw [List.map_append]; rfl, by rw [List.length_append, List.length_singleton]; omega, no_len (by rw [List.length_append, List.length_singleton]; omega)⟩
        · refine ⟨ls.drop 1, by rw [List.map_drop]; exact congrArg _ (cut_drop (k := 1) _), by rw [List.length_drop]; omega, no_len (by rw [List.length_drop]; omega)⟩
        · exact ⟨[], rfl, by decide, no_len (by simp; omega)⟩
        · exact ⟨ls ++ [(((ls.map PyData.int).length : Nat) : Int)], by rw [List.map_append]; rfl, by rw [List.length_append, List.length_singleton]; omega, no_len (by rw [List.length_append, List.length_singleton]; omega)⟩
      rintro _ ⟨xs, rfl, h1, h2⟩
      o_attr
      exact fin _ _ h1 h2 rfl
/-! law -/
--I X31
abbrev S_law : VSp := lawS 63
abbrev N_law : List Str := ["script", "at", "cell", "bag", "measures", "bad", "odd", "far", "book", "leans", "order", "thing", "due", "good", "door"]
def t_law : DTS := (cSeq (cFor [] (cEnum (cCons (cFrz (c2 gAdd (cSl (cVar 0) cNoP (cPt (cK (.fr (.int 63))))) (cLst (cCons (cFn (g1 gLen) (cCons (cVar 0) cNil)) cNil)))) cNil)) (gTu 2 (gsCons (gNm 1) (gsCons (gNm 2) gsNil))) (cSeq (cAsg (cCall [] S__law_new_bag (cCons (cVar 2) (cCons (cVar 1) cNil))) (gNm 3)) (cSeq (cAsg (cFrz (c2 gAdd (cK (.fr (.int 1))) (cCall [0] S__law_draw (cCons (cVar 3) (cCons (cK (.fr (.int 4))) cNil))))) (gNm 4)) (cSeq (cAsg (cFrz (cCall [0] S__law_no_leans (cCons (cVar 3) (cCons (cFrz (cCall [0] S__law_some_leans (cCons (cVar 3) (cCons (cVar 4) cNil)))) cNil)))) (gNm 5)) (cSeq (cAsg (cFrz (cCall [0] S__law_no_order (cCons (cVar 3) (cCons (cFrz (cRevD (cTuR (cRgA (cVar 4))) (c2 kSub (cK (.fr (.int 1))) (c2 kMul (cK (.fr (.int 2))) (cCall [0] S__law_draw (cCons (cVar 3) (cCons (cK (.fr (.int 2))) cNil))))))) cNil)))) (gNm 6)) (cSeq (cAsg (c2 gIx (cLst (cCons (cK (.fr (.int 0))) (cCons (c1 gNeg (cK (.fr (.int 1)))) (cCons (c2 gAdd (c2 kPow (cK (.fr (.int 10))) (cK (.fr (.int 12)))) (cK (.fr (.int 1)))) (cCons (cFrz (c2 gAdd (c2 gAdd (c2 kPow (cK (.fr (.int 10))) (cK (.fr (.int 12)))) (cK (.fr (.int 1)))) (c2 kMul (c2 kPow (cK (.fr (.int 10))) (cK (.fr (.int 40)))) (cCall [0] S__law_draw (cCons (cVar 3) (cCons (cK (.fr (.int 99))) cNil)))))) cNil))))) (cCall [0] S__law_draw (cCons (cVar 3) (cCons (cK (.fr (.int 4))) cNil)))) (gNm 7)) (cSeq (cAsg (cFrz (cCall [0] S__law_a_book (cCons (cVar 3) (cCons (cVar 4) (cCons (cK (.fr (.int 9))) cNil))))) (gNm 8)) (cSeq (cAsg (cFrz (cCall [0] S__law_some_leans (cCons (cVar 3) (cCons (cVar 4) cNil)))) (gNm 9)) (cSeq (cAsg (cTuR (cRgA (cVar 4))) (gNm 10)) (cSeq (cAsg (cFrz (cLst (cCons (cTup (cCons (cTup cNil) (cCons (cTup (cCons (cTup cNil) cNil)) cNil))) (cCons (cTup (cCons (cTup (cCons (cTup (cCons (cK (.fr (.int 1))) (cCons (cK (.fr (.int 2))) cNil))) cNil)) (cCons (cTup (cCons (cTup (cCons (cK (.fr (.int 0))) cNil)) (cCons (cTup (cCons (cK (.fr (.int 1))) cNil)) cNil))) cNil))) (cCons (cTup (cCons (cTup (cCons (cTup (cCons (cK (.fr (.int 2))) (cCons (cK (.fr (.int 4))) cNil))) (cCons (cTup (cCons (cK (.fr (.int 0))) (cCons (cK (.fr (.int 0))) cNil))) cNil))) (cCons (cTup cNil) cNil))) (cCons (cFrz (cCall [] (nxS S_way_of) (cCons (cVar 8) (cCons (cVar 9) (cCons (cVar 9) cNil))))) cNil)))))) (gNm 11)) (cSeq (cAsg (c2 gIx (cVar 11) (cCall [0] S__law_draw (cCons (cVar 3) (cCons (cK (.fr (.int 4))) cNil)))) (gNm 11)) (cSeq (cIfS (cTst (c2 (gEq true) (cLc [] [14] (cRng1 (cCons (cK (.fr (.int 3))) cNil)) (gNm 14) (cTst (c2 (gEq true) (cCall [] S__law_refused_as (cCons (cVar 14) (cCons (cVar 8) (cCons (cVar 5) (cCons (cVar 9) (cCons (cVar 11) cNil)))))) (cK (.fr (.str "weights"))))) (cVar 14)) (cLst cNil))) (cRet (cK (.fr (.bool false)))) cNext) (cSeq (cIfS (cTst (c2 (gEq true) (cLc [] [14] (cSeqI (cTup (cCons (cK (.fr (.int 1))) (cCons (cK (.fr (.int 2))) cNil)))) (gNm 14) (cTst (c2 (gEq true) (cCall [] S__law_refused_as (cCons (cVar 14) (cCons (cVar 8) (cCons (cVar 9) (cCons (cVar 5) (cCons (cVar 11) cNil)))))) (cK (.fr (.str "weights"))))) (cVar 14)) (cLst cNil))) (cRet (cK (.fr (.bool false)))) cNext) (cSeq (cIfS (cTst (c2 (gEq true) (cLc [] [14] (cSeqI (cTup (cCons (cK (.fr (.int 3))) (cCons (cK (.fr (.int 4))) (cCons (cK (.fr (.int 5))) cNil))))) (gNm 14) (cTst (c2 (gEq true) (cCall [] S__law_refused_as (cCons (cVar 14) (cCons (cVar 8) (cCons (cVar 6) (cCons (cVar 5) (cCons (cVar 11) cNil)))))) (cK (.fr (.str "order"))))) (cVar 14)) (cLst cNil))) (cRet (cK (.fr (.bool false)))) cNext) (cSeq (cAsg (c2 gIx (cLst (cCons (cK (.fr (.str "number"))) (cCons (cK (.fr (.str "measures"))) cNil))) (cFn (g1 gInt) (cCons (c2 (gEq true) (cVar 4) (cK (.fr (.int 2)))) cNil))) (gNm 12)) (cSeq (cIfS (cTst (c2 (gEq true) (cCall [] S__law_refused_as (cCons (cK (.fr (.int 6))) (cCons (cVar 8) (cCons (cVar 9) (cCons (cVar 9) (cCons (cVar 7) cNil)))))) (cVar 12))) (cRet (cK (.fr (.bool false)))) cNext) (cSeq (cIfS (cTst (c2 (gEq true) (cCall [] S__law_refused_as (cCons (cK (.fr (.int 6))) (cCons (cVar 8) (cCons (cVar 9) (cCons (cVar 9) (cCons (cK (.fr (.int 1))) cNil)))))) (c2 gIx (cLst (cCons (cK (.fr (.str "told"))) (cCons (cK (.fr (.str "measures"))) cNil))) (cFn (g1 gInt) (cCons (c2 (gEq true) (cVar 4) (cK (.fr (.int 2)))) cNil))))) (cRet (cK (.fr (.bool false)))) cNext) (cSeq (cAsg (cFrz (cLc [] [14] (cRng1 (cCons (cK (.fr (.int 3))) cNil)) (gNm 14) cYes (cFrz (cCall [] S__law_refused_as (cCons (cVar 14) (cCons (cVar 8) (cCons (cVar 9) (cCons (cVar 9) (cCons (cVar 11) cNil))))))))) (gNm 13)) (cSeq (cAsg (cFrz (c2 gAdd (cVar 13) (cLc [] [14] (cSeqI (cTup (cCons (cK (.fr (.int 3))) (cCons (cK (.fr (.int 4))) (cCons (cK (.fr (.int 5))) cNil))))) (gNm 14) cYes (cFrz (cCall [] S__law_refused_as (cCons (cVar 14) (cCons (cVar 8) (cCons (cVar 10) (cCons (cVar 5) (cCons (cVar 11) cNil)))))))))) (gNm 13)) (cIfS (cTst (c2 (gEq true) (cVar 13) (c2 gRepA (cLst (cCons (cK (.fr (.str "told"))) cNil)) (cK (.fr (.int 6)))))) (cRet (cK (.fr (.bool false)))) cNext)))))))))))))))))))) (cRet (cK (.fr (.bool true)))))
theorem asked_as {door : Int} {m : Nat} {ps : List (List Int)} {x y : List Int} {z : PyData} (w : Str) (hd0 : 0 ≤ door) (hd6 : door ≤ 6) (hp : Pts ps) (hm1 : 1 ≤ m) (hm4 : m ≤ 4) (hps : ps.length ≤ 24) (hpm : ∀ p ∈ ps, p.length = m) (hf : ∀ p ∈ ps, ∀ x ∈ p, FarI x) (hx : x.length ≤ 10) (hy : y.length ≤ 10)
    (k1 : 0 ≤ door ∧ door ≤ 2 → w = "NoWeights" ∧ (leansB m x = false ∨ (1 ≤ door ∧ leansB m y = false)) ∨ w = "" ∧ leansB m x = true ∧ leansB m y = true)
    (k2 : 3 ≤ door ∧ door ≤ 5 → w = "NoOrder" ∧ ordB m x = false ∨ w = "" ∧ x = (List.range m).map fun (k : Nat) => (k : Int))
    (k3 : door = 6 → (m ≠ 2 ∧ w = "NoMeasures") ∨ (m = 2 ∧ (∃ k : Int, z = .int k ∧ ((k < 1 ∨ 10 ^ 12 < k) ∧ w = "NoNumber" ∨ k = 1 ∧ w = ""))))
    (k4 : door = 2 → ∃ (T : List Ln) (B : List (List Int)), T.length ≤ 1000 ∧ (∀ t ∈ T, FX t) ∧ B.length ≤ 5000 ∧ z = .tuple [.tuple (T.map lnD), pts B])
    {Q : Vl → List Vl → Prop} {E : Xn → List Vl → Prop} (hw : w = "" ∨ w = "NoWeights" ∨ w = "NoOrder" ∨ w = "NoMeasures" ∨ w = "NoNumber") (q : ∀ ds', Q (.fr (.str (wordOf w))) ds') : S__law_refused_as [.fr (.int door), .fr (.tuple [.int (m : Nat), pts ps]), .fr (pt x), .fr (pt y), .fr z] Q E :=
  ⟨w, hw, rfl, fun d h => by
    simp only [List.mem_cons, List.not_mem_nil, or_false] at h
    rcases h with rfl | rfl | rfl | rfl | rfl <;> exact ⟨_, rfl⟩, fun Q2 E2 h1 h2 => ⟨door, m, ps, x, y, z, w, hd0, hd6, hp, hm1, hm4, hps, hpm, hf, hx, hy, rfl, k1, k2, k3, k4, h1, h2⟩, q⟩
theorem r_law : ∀ ds Q0 E0, S_law ds Q0 E0 → t_law (dEnds Q0) (ds ++ List.replicate (N_law.length - 1) .gone) := by
  rintro ds Q0 E0 ⟨ns, hn, rfl, q⟩
  simp only [N_law, List.length_cons, List.length_nil, List.cons_append, List.nil_append, Nat.reduceAdd, Nat.reduceSub, Nat.zero_add, List.replicate_succ, List.replicate_zero]; unfold t_law
  o_attr
  have e1 : cut (List.map PyData.int ns) none (some 63) = (ns.take 63).map .int := by
    rw [List.map_take]; exact cut_take (k := 63) _
  rw [e1]
  have hl : (List.map PyData.int ns).length = ns.length := List.length_map _
  refine s_addL (xs := (ns.take 63).map .int) (ys := [.int ((List.map PyData.int ns).length : Nat)]) rfl rfl (small (k := 100) (by simp only [List.length_cons, List.length_nil, List.length_map, List.length_take]; omega)) ?_
  rw [show List.map PyData.int (ns.take 63) ++ [PyData.int ((List.map PyData.int ns).length : Nat)] = (ns.take 63 ++ [((List.map PyData.int ns).length : Int)]).map .int by rw [List.map_append]; rfl]
  generalize hz : ns.take 63 ++ [((List.map PyData.int ns).length : Int)] = zs
  have hzl : zs.length ≤ 64 := by rw [← hz, List.length_append, List.length_singleton, List.length_take]; omega
  o_attr
  refine s_forMap (List.zipIdx zs) (fun p => .tuple [.int (p.2 : Nat), .int p.1]) (fun l' st => (∀ p ∈ l', p.2 < 64) ∧ ∃ d1 d2 d3 d4 d5 d6 d7 d8 d9 d10 d11 d12 d13, st = [.scr ns, d1, d2, d3, d4, d5, d6, d7, d8, d9, d10, d11, d12, d13, .gone])
    (enum_map .int zs 0) rfl ⟨fun p hp => ?_, _, _, _, _, _, _, _, _, _, _, _, _, _, rfl⟩ ?_ ?_
  · obtain ⟨a, b⟩ := p
    have := List.snd_lt_of_mem_zipIdx hp
    show b < 64
    omega
  · rintro ⟨cell, i⟩ l' st ⟨hl, d1, d2, d3, d4, d5, d6, d7, d8, d9, d10, d11, d12, d13, rfl⟩ K hK
    have hi : i < 64 := hl _ List.mem_cons_self
    have next : ∀ d1 d2 d3 d4 d5 d6 d7 d8 d9 d10 d11 d12 d13, K [.scr ns, d1, d2, d3, d4, d5, d6, d7, d8, d9, d10, d11, d12, d13, .gone] := fun d1 d2 d3 d4 d5 d6 d7 d8 d9 d10 d11 d12 d13 => hK _ ⟨fun p hp => hl p (List.mem_cons_of_mem _ hp), _, _, _, _, _, _, _, _, _, _, _, _, _, rfl⟩ rfl
    o_norm
    refine ⟨cell, i, by omega, by omega, rfl, fun l ds' hP => ?_⟩
    o_norm
    refine ⟨_, _, _, hP, by omega, by omega, by omega, rfl, fun l mm ds1 hP h0mm h1mm e1 => ?_⟩; ((with_reducible apply s_up); (· (first | (simp only [upds, List.set_cons_zero, List.set_cons_succ, Option.getD_some, e1]; done) | (simp only [upds, List.set_cons_zero, List.set_cons_succ, Option.getD_some, e1]; rfl)))); o_attr
    o_args
    o_attr
    obtain ⟨m, hm, hm1, hm4⟩ : ∃ m : Nat, 1 + mm = (m : Int) ∧ 1 ≤ m ∧ m ≤ 4 := ⟨(1 + mm).toNat, by omega, by omega, by omega⟩
    rw [hm]
    refine ⟨l, _, m, hP, by omega, hm1, hm4, rfl, fun l b0 ds1 hP hbl0 hb0 e1 => ?_⟩
    ((with_reducible apply s_up); (· (first | (simp only [upds, List.set_cons_zero, List.set_cons_succ, Option.getD_some, e1]; done) | (simp only [upds, List.set_cons_zero, List.set_cons_succ, Option.getD_some, e1]; rfl))))
    o_attr
    refine ⟨l, _, m, b0, hP, by omega, hm1, hm4, hb0, rfl, fun l bad ds1 hP hbadl hbad e1 => ?_⟩
    ((with_reducible apply s_up); (· (first | (simp only [upds, List.set_cons_zero, List.set_cons_succ, Option.getD_some, e1]; done) | (simp only [upds, List.set_cons_zero, List.set_cons_succ, Option.getD_some, e1]; rfl))))
    o_attr
    o_args
    with_reducible refine s_seqCut (fun st => ∃ (l : List PyData) (odd : List Int), Pot 3000 l ∧ odd.length ≤ 10 ∧ ordB m odd = false ∧ st = [.scr ns, .fr (.int (i : Nat)), .fr (.int cell), .ow l, .fr (.int (m : Nat)), .fr (pt bad), .fr (pt odd), d7, d8, d9, d10, d11, d12, d13, .gone]) (fun K2 hK2 => ?_) ?_
    · o_attr
      refine ⟨_, _, _, hP, by omega, by omega, by omega, rfl, fun l step ds1 hP h0step h1step e1 => ?_⟩; ((with_reducible apply s_up); (· (first | (simp only [upds, List.set_cons_zero, List.set_cons_succ, Option.getD_some, e1]; done) | (simp only [upds, List.set_cons_zero, List.set_cons_succ, Option.getD_some, e1]; rfl)))); o_attr
      have hr : rng 0 (m : Int) = (List.range m).map fun (k : Nat) => PyData.int (k : Int) := rngN m
      obtain rfl | rfl : step = 0 ∨ step = 1 := by omega
      · refine ⟨_, rfl, .inl ⟨rfl, ?_⟩⟩
        o_attr
        refine ⟨l, _, m, List.range m, hP, by omega, hm1, hm4, List.Perm.refl _, by rw [hr]; rfl, fun l odd ds1 hP h1 h2 e1 => ?_⟩
        ((with_reducible apply s_up); (· (first | (simp only [upds, List.set_cons_zero, List.set_cons_succ, Option.getD_some, e1]; done) | (simp only [upds, List.set_cons_zero, List.set_cons_succ, Option.getD_some, e1]; rfl))))
        o_norm
        exact hK2 _ ⟨l, odd, hP.mono (by omega), h1, h2, rfl⟩
      · refine ⟨_, rfl, .inr ⟨rfl, ?_⟩⟩
        o_attr
        refine ⟨l, _, m, (List.range m).reverse, hP, by omega, hm1, hm4, List.reverse_perm _, by rw [hr, ← List.map_reverse]; rfl, fun l odd ds1 hP h1 h2 e1 => ?_⟩
        ((with_reducible apply s_up); (· (first | (simp only [upds, List.set_cons_zero, List.set_cons_succ, Option.getD_some, e1]; done) | (simp only [upds, List.set_cons_zero, List.set_cons_succ, Option.getD_some, e1]; rfl))))
        o_norm
        exact hK2 _ ⟨l, odd, hP.mono (by omega), h1, h2, rfl⟩
    rintro st ⟨l, odd, hP, hoddl, hodd, rfl⟩
    o_attr
    refine ⟨_, _, _, hP, by omega, by omega, by omega, rfl, fun l f1 ds1 hP h0f1 h1f1 e1 => ?_⟩; ((with_reducible apply s_up); (· (first | (simp only [upds, List.set_cons_zero, List.set_cons_succ, Option.getD_some, e1]; done) | (simp only [upds, List.set_cons_zero, List.set_cons_succ, Option.getD_some, e1]; rfl)))); o_attr
    o_attr
    refine ⟨_, _, _, hP, by omega, by omega, by omega, rfl, fun l f2 ds1 hP h0f2 h1f2 e1 => ?_⟩; ((with_reducible apply s_up); (· (first | (simp only [upds, List.set_cons_zero, List.set_cons_succ, Option.getD_some, e1]; done) | (simp only [upds, List.set_cons_zero, List.set_cons_succ, Option.getD_some, e1]; rfl)))); o_attr
    refine s_ixI (f := fun z => z < 1 ∨ 10 ^ 12 < z) rfl (atI_all h0f2 (by simp only [List.length_cons, List.length_nil]; omega) fun d hd => ?_) fun far hfar0 => ?_
    · simp only [List.mem_cons, List.not_mem_nil, or_false] at hd
      rcases hd with rfl | rfl | rfl | rfl
      · exact ⟨_, rfl, by decide⟩
      · exact ⟨_, rfl, by decide⟩
      · exact ⟨_, rfl, by decide⟩
      · exact ⟨_, rfl, by omega⟩
    o_attr
    o_args
    o_attr
    refine ⟨l, _, m, 9, hP, by omega, hm1, hm4, by omega, by omega, rfl, fun l ps ds1 hP hps hpf e1 => ?_⟩
    ((with_reducible apply s_up); (· (first | (simp only [upds, List.set_cons_zero, List.set_cons_succ, Option.getD_some, e1]; done) | (simp only [upds, List.set_cons_zero, List.set_cons_succ, Option.getD_some, e1]; rfl))))
    o_norm
    have hPts : Pts ps := ⟨by omega, fun p h => by rw [(hpf p h).1]; omega⟩
    have hfar : ∀ p ∈ ps, ∀ x ∈ p, FarI x := fun p h => (hpf p h).2
    refine ⟨l, _, m, hP, by omega, hm1, hm4, rfl, fun l a ds1 hP hal la e1 => ?_⟩
    ((with_reducible apply s_up); (· (first | (simp only [upds, List.set_cons_zero, List.set_cons_succ, Option.getD_some, e1]; done) | (simp only [upds, List.set_cons_zero, List.set_cons_succ, Option.getD_some, e1]; rfl))))
    o_norm
    have hrr : rng 0 (m : Int) = ((List.range m).map fun (k : Nat) => (k : Int)).map .int := by rw [rngN, List.map_map]; rfl
    rw [hrr]
    have hB := lnBnd hm4 hfar la la
    have hPl := hPts.1
    have hll : (lnOf ps a a).length = ps.length := List.length_map _
    have hbl2 : (brks (lnOf ps a a)).length ≤ (lnOf ps a a).length := wrun_lenW _ _ _ _
    refine ⟨m, ps, a, a, hPts, hfar, by omega, by omega, rfl, .inl ⟨la, la, hB, fun ds' hT => ?_⟩⟩
    o_attr
    o_args
    o_attr
    refine ⟨_, _, _, hP, by omega, by omega, by omega, rfl, fun l pick ds1 hP h0pick h1pick e1 => ?_⟩; ((with_reducible apply s_up); (· (first | (simp only [upds, List.set_cons_zero, List.set_cons_succ, Option.getD_some, e1]; done) | (simp only [upds, List.set_cons_zero, List.set_cons_succ, Option.getD_some, e1]; rfl)))); o_attr
    refine s_ixD (f := fun p => ∃ (T : List Ln) (B : List (List Int)), T.length ≤ 1000 ∧ (∀ t ∈ T, FX t) ∧ B.length ≤ 5000 ∧ p = .tuple [.tuple (T.map lnD), pts B]) rfl (atI_allD h0pick (by simp only [List.length_cons, List.length_nil]; omega) fun d hd => ?_) ?_
    · simp only [List.mem_cons, List.not_mem_nil, or_false] at hd
      rcases hd with rfl | rfl | rfl | rfl
      · exact ⟨[], [[]], by decide, by simp, by decide, rfl⟩
      · exact ⟨[(1, 2)], [[0], [1]], by decide, by simp [FX], by decide, rfl⟩
      · exact ⟨[(2, 4), (0, 0)], [], by decide, by simp [FX], by decide, rfl⟩
      · exact ⟨brks (lnOf ps a a), bsts (lnOf ps a a) (brks (lnOf ps a a)), by omega, fun t ht => (hT t ht).x, by rw [bsts_len]; omega, rfl⟩
    rintro _ ⟨T, B, t1, t2, t3, rfl⟩
    have hpm : ∀ p ∈ ps, p.length = m := fun p h => (hpf p h).1
    have hps24 : ps.length ≤ 24 := by omega
    o_attr
    o_args
    o_attr
    have kW : ∀ z : Int, z ≤ 2 → ¬ (3 ≤ z ∧ z ≤ 5) ∧ z ≠ 6 := fun z h => by omega
    refine s_rng1K (by omega) (by omega) ?_
    o_attr
    apply s_lcMap (List.range 3) (fun (i : Nat) => .int (i : Int)) (fun k => if (false : Bool) = true then some (PyData.int 0) else none) (rngN 3); (· (first | (simp only [wipeD, List.set_cons_zero, List.set_cons_succ]; done) | (simp only [wipeD, List.set_cons_zero, List.set_cons_succ]; rfl))); (· (first | (simp only [rst, List.set_cons_zero, List.set_cons_succ, Option.getD_some, List.getElem?_cons_zero, List.getElem?_cons_succ]; done) | (simp only [rst, List.set_cons_zero, List.set_cons_succ, Option.getD_some, List.getElem?_cons_zero, List.getElem?_cons_succ]; rfl)))
    · trivial
    · exact small (k := 10) (by simp)
    · intro k hk K2 hK2
      have hk3 := List.mem_range.mp hk
      o_norm
      refine asked_as "NoWeights" (by omega) (by omega) hPts hm1 hm4 hps24 hpm hfar hbadl (by omega) (fun _ => .inl ⟨rfl, .inl hbad⟩) (fun h => absurd h (by omega)) (fun h => absurd h (by omega)) (fun _ => ⟨T, B, t1, t2, t3, rfl⟩) (by decide) fun ds' => ?_
      rw [show wordOf "NoWeights" = "weights" by decide]
      o_attr
      · exact hK2
      · exact absurd rfl h
    rw [fmap_if, show ((((List.range 3)).filter fun _ => false).map fun _ => PyData.int 0) = [] by rw [List.filter_eq_nil_iff.mpr (by simp)]; rfl]
    o_attr
    rotate_left
    · exact absurd rfl h
    apply s_lcMap [(1 : Int), 2] PyData.int (fun k => if (false : Bool) = true then some (PyData.int 0) else none) rfl; (· (first | (simp only [wipeD, List.set_cons_zero, List.set_cons_succ]; done) | (simp only [wipeD, List.set_cons_zero, List.set_cons_succ]; rfl))); (· (first | (simp only [rst, List.set_cons_zero, List.set_cons_succ, Option.getD_some, List.getElem?_cons_zero, List.getElem?_cons_succ]; done) | (simp only [rst, List.set_cons_zero, List.set_cons_succ, Option.getD_some, List.getElem?_cons_zero, List.getElem?_cons_succ]; rfl)))
    · trivial
    · exact small (k := 10) (by simp)
    · intro k hk K2 hK2
      have hk3 : 1 ≤ k ∧ k ≤ 2 := by simp only [List.mem_cons, List.not_mem_nil, or_false] at hk; omega
      o_norm
      refine asked_as "NoWeights" (by omega) (by omega) hPts hm1 hm4 hps24 hpm hfar (by omega) hbadl (fun _ => .inl ⟨rfl, .inr ⟨by omega, hbad⟩⟩) (fun h => absurd h (by omega)) (fun h => absurd h (by omega)) (fun _ => ⟨T, B, t1, t2, t3, rfl⟩) (by decide) fun ds' => ?_
      rw [show wordOf "NoWeights" = "weights" by decide]
      o_attr
      · exact hK2
      · exact absurd rfl h
    rw [fmap_if, show ((([(1 : Int), 2]).filter fun _ => false).map fun _ => PyData.int 0) = [] by rw [List.filter_eq_nil_iff.mpr (by simp)]; rfl]
    o_attr
    rotate_left
    · exact absurd rfl h
    apply s_lcMap [(3 : Int), 4, 5] PyData.int (fun k => if (false : Bool) = true then some (PyData.int 0) else none) rfl; (· (first | (simp only [wipeD, List.set_cons_zero, List.set_cons_succ]; done) | (simp only [wipeD, List.set_cons_zero, List.set_cons_succ]; rfl))); (· (first | (simp only [rst, List.set_cons_zero, List.set_cons_succ, Option.getD_some, List.getElem?_cons_zero, List.getElem?_cons_succ]; done) | (simp only [rst, List.set_cons_zero, List.set_cons_succ, Option.getD_some, List.getElem?_cons_zero, List.getElem?_cons_succ]; rfl)))
    · trivial
    · exact small (k := 10) (by simp)
    · intro k hk K2 hK2
      have hk3 : 3 ≤ k ∧ k ≤ 5 := by simp only [List.mem_cons, List.not_mem_nil, or_false] at hk; omega
      o_norm
      refine asked_as "NoOrder" (by omega) (by omega) hPts hm1 hm4 hps24 hpm hfar hoddl hbadl (fun h => absurd h (by omega)) (fun _ => .inl ⟨rfl, hodd⟩) (fun h => absurd h (by omega)) (fun _ => ⟨T, B, t1, t2, t3, rfl⟩) (by decide) fun ds' => ?_
      rw [show wordOf "NoOrder" = "order" by decide]
      o_attr
      · exact hK2
      · exact absurd rfl h
    rw [fmap_if, show ((([(3 : Int), 4, 5]).filter fun _ => false).map fun _ => PyData.int 0) = [] by rw [List.filter_eq_nil_iff.mpr (by simp)]; rfl]
    o_attr
    rotate_left
    · exact absurd rfl h
    by_cases hm2 : m = 2
    · rw [show PyData.eqv (.int (m : Nat)) (.int 2) = true by rw [eqv_int]; exact decide_eq_true (by omega)]
      refine s_ixL (x := .str "number") rfl (by rfl) ?_
      o_norm
      refine asked_as "NoNumber" (by omega) (by omega) hPts hm1 hm4 hps24 hpm hfar (by omega) (by omega) (fun h => absurd h (by omega)) (fun h => absurd h (by omega)) (fun _ => .inr ⟨hm2, far, rfl, .inl ⟨hfar0, rfl⟩⟩) (fun h => absurd h (by omega)) (by decide) fun ds' => ?_
      rw [show wordOf "NoNumber" = "number" by decide]
      o_attr
      rotate_left
      · exact absurd rfl h
      refine asked_as "" (by omega) (by omega) hPts hm1 hm4 hps24 hpm hfar (by omega) (by omega) (fun h => absurd h (by omega)) (fun h => absurd h (by omega)) (fun _ => .inr ⟨hm2, 1, rfl, .inr ⟨rfl, rfl⟩⟩) (fun h => absurd h (by omega)) (by decide) fun ds' => ?_
      rw [show wordOf "" = "told" by decide]
      o_attr
      rw [show PyData.eqv (.int (m : Nat)) (.int 2) = true by rw [eqv_int]; exact decide_eq_true (by omega)]
      refine s_ixL (x := .str "told") rfl (by rfl) ?_
      o_attr
      rotate_left
      · exact absurd rfl h
      refine s_rng1K (by omega) (by omega) ?_
      o_attr
      apply s_lcMap (List.range 3) (fun (i : Nat) => .int (i : Int)) (fun k => some (PyData.str "told")) (rngN 3); (· (first | (simp only [wipeD, List.set_cons_zero, List.set_cons_succ]; done) | (simp only [wipeD, List.set_cons_zero, List.set_cons_succ]; rfl))); (· (first | (simp only [rst, List.set_cons_zero, List.set_cons_succ, Option.getD_some, List.getElem?_cons_zero, List.getElem?_cons_succ]; done) | (simp only [rst, List.set_cons_zero, List.set_cons_succ, Option.getD_some, List.getElem?_cons_zero, List.getElem?_cons_succ]; rfl)))
      · trivial
      · exact small (k := 10) (by simp)
      · intro k hk K2 hK2
        have hk3 := List.mem_range.mp hk
        o_norm
        refine asked_as "" (by omega) (by omega) hPts hm1 hm4 hps24 hpm hfar (by omega) (by omega) (fun _ => .inr ⟨rfl, la, la⟩) (fun h => absurd h (by omega)) (fun h => absurd h (by omega)) (fun _ => ⟨T, B, t1, t2, t3, rfl⟩) (by decide) fun ds' => ?_
        rw [show wordOf "" = "told" by decide]
        o_attr
        exact hK2
      rw [fmap_some]
      o_attr
      o_args
      o_attr
      apply s_lcMap [(3 : Int), 4, 5] PyData.int (fun k => some (PyData.str "told")) rfl; (· (first | (simp only [wipeD, List.set_cons_zero, List.set_cons_succ]; done) | (simp only [wipeD, List.set_cons_zero, List.set_cons_succ]; rfl))); (· (first | (simp only [rst, List.set_cons_zero, List.set_cons_succ, Option.getD_some, List.getElem?_cons_zero, List.getElem?_cons_succ]; done) | (simp only [rst, List.set_cons_zero, List.set_cons_succ, Option.getD_some, List.getElem?_cons_zero, List.getElem?_cons_succ]; rfl)))
      · trivial
      · exact small (k := 10) (by simp)
      · intro k hk K2 hK2
        have hk3 : 3 ≤ k ∧ k ≤ 5 := by simp only [List.mem_cons, List.not_mem_nil, or_false] at hk; omega
        o_norm
        refine asked_as (x := (List.range m).map fun (k : Nat) => (k : Int)) "" (by omega) (by omega) hPts hm1 hm4 hps24 hpm hfar (by rw [List.length_map, List.length_range]; omega) hbadl (fun h => absurd h (by omega)) (fun _ => .inr ⟨rfl, rfl⟩) (fun h => absurd h (by omega)) (fun _ => ⟨T, B, t1, t2, t3, rfl⟩) (by decide) fun ds' => ?_
        rw [show wordOf "" = "told" by decide]
        o_attr
        exact hK2
      rw [fmap_some]
      o_attr
      rw [show (List.map (fun (k : Nat) => PyData.str "told") (List.range 3) ++ List.map (fun (k : Int) => PyData.str "told") [3, 4, 5]) = List.replicate 6 (PyData.str "told") from rfl]
      o_args
      o_attr
      refine s_repL1 (n := 6) (by omega) ?_
      o_attr
      · exact next _ _ _ _ _ _ _ _ _ _ _ _ _
      · exact absurd rfl h
    · rw [show PyData.eqv (.int (m : Nat)) (.int 2) = false by rw [eqv_int]; exact decide_eq_false (by omega)]
      refine s_ixL (x := .str "measures") rfl (by rfl) ?_
      o_norm
      refine asked_as "NoMeasures" (by omega) (by omega) hPts hm1 hm4 hps24 hpm hfar (by omega) (by omega) (fun h => absurd h (by omega)) (fun h => absurd h (by omega)) (fun _ => .inl ⟨hm2, rfl⟩) (fun h => absurd h (by omega)) (by decide) fun ds' => ?_
      rw [show wordOf "NoMeasures" = "measures" by decide]
      o_attr
      rotate_left
      · exact absurd rfl h
      refine asked_as "NoMeasures" (by omega) (by omega) hPts hm1 hm4 hps24 hpm hfar (by omega) (by omega) (fun h => absurd h (by omega)) (fun h => absurd h (by omega)) (fun _ => .inl ⟨hm2, rfl⟩) (fun h => absurd h (by omega)) (by decide) fun ds' => ?_
      rw [show wordOf "NoMeasures" = "measures" by decide]
      o_attr
      rw [show PyData.eqv (.int (m : Nat)) (.int 2) = false by rw [eqv_int]; exact decide_eq_false (by omega)]
      refine s_ixL (x := .str "measures") rfl (by rfl) ?_
      o_attr
      rotate_left
      · exact absurd rfl h
      refine s_rng1K (by omega) (by omega) ?_
      o_attr
      apply s_lcMap (List.range 3) (fun (i : Nat) => .int (i : Int)) (fun k => some (PyData.str "told")) (rngN 3); (· (first | (simp only [wipeD, List.set_cons_zero, List.set_cons_succ]; done) | (simp only [wipeD, List.set_cons_zero, List.set_cons_succ]; rfl))); (· (first | (simp only [rst, List.set_cons_zero, List.set_cons_succ, Option.getD_some, List.getElem?_cons_zero, List.getElem?_cons_succ]; done) | (simp only [rst, List.set_cons_zero, List.set_cons_succ, Option.getD_some, List.getElem?_cons_zero, List.getElem?_cons_succ]; rfl)))
      · trivial
      · exact small (k := 10) (by simp)
      · intro k hk K2 hK2
        have hk3 := List.mem_range.mp hk
        o_norm
        refine asked_as "" (by omega) (by omega) hPts hm1 hm4 hps24 hpm hfar (by omega) (by omega) (fun _ => .inr ⟨rfl, la, la⟩) (fun h => absurd h (by omega)) (fun h => absurd h (by omega)) (fun _ => ⟨T, B, t1, t2, t3, rfl⟩) (by decide) fun ds' => ?_
        rw [show wordOf "" = "told" by decide]
        o_attr
        exact hK2
      rw [fmap_some]
      o_attr
      o_args
      o_attr
      apply s_lcMap [(3 : Int), 4, 5] PyData.int (fun k => some (PyData.str "told")) rfl; (· (first | (simp only [wipeD, List.set_cons_zero, List.set_cons_succ]; done) | (simp only [wipeD, List.set_cons_zero, List.set_cons_succ]; rfl))); (· (first | (simp only [rst, List.set_cons_zero, List.set_cons_succ, Option.getD_some, List.getElem?_cons_zero, List.getElem?_cons_succ]; done) | (simp only [rst, List.set_cons_zero, List.set_cons_succ, Option.getD_some, List.getElem?_cons_zero, List.getElem?_cons_succ]; rfl)))
      · trivial
      · exact small (k := 10) (by simp)
      · intro k hk K2 hK2
        have hk3 : 3 ≤ k ∧ k ≤ 5 := by simp only [List.mem_cons, List.not_mem_nil, or_false] at hk; omega
        o_norm
        refine asked_as (x := (List.range m).map fun (k : Nat) => (k : Int)) "" (by omega) (by omega) hPts hm1 hm4 hps24 hpm hfar (by rw [List.length_map, List.length_range]; omega) hbadl (fun h => absurd h (by omega)) (fun _ => .inr ⟨rfl, rfl⟩) (fun h => absurd h (by omega)) (fun _ => ⟨T, B, t1, t2, t3, rfl⟩) (by decide) fun ds' => ?_
        rw [show wordOf "" = "told" by decide]
        o_attr
        exact hK2
      rw [fmap_some]
      o_attr
      rw [show (List.map (fun (k : Nat) => PyData.str "told") (List.range 3) ++ List.map (fun (k : Int) => PyData.str "told") [3, 4, 5]) = List.replicate 6 (PyData.str "told") from rfl]
      o_args
      o_attr
      refine s_repL1 (n := 6) (by omega) ?_
      o_attr
      · exact next _ _ _ _ _ _ _ _ _ _ _ _ _
      · exact absurd rfl h
  · rintro st ⟨_, d1, d2, d3, d4, d5, d6, d7, d8, d9, d10, d11, d12, d13, rfl⟩
    o_attr
    exact q _
-- common_of: N = ['one', 'other'], lk = []
theorem sc_common_of : FnScope N_common_of ["one", "other"] (defScope s_common_of) := ⟨rfl, rfl, rfl, by decide +kernel, rfl, by decide +kernel, by decide +kernel⟩
theorem b_common_of {P : Program} {w : World} {K : PySem.W.Frag} {mg : Str → Option Value} {base : Heap} {f : Addr} {cdv : Value} {A : Around} {outer : List Env} {s : Shared} {H : Hp} {E : XK} {B : Ba} 
    (hr : Room 0 (A.deeper (envOfC "common_of" (defScope s_common_of) s.heap.objs.size f cdv))) (hgd : A.guards = some []) : DSs (cxOf CX0 P w K mg base N_common_of "common_of" (defScope s_common_of) f cdv A outer s H E) B [] (defBody s_common_of) t_common_of :=
  have hu : A.units + 3 + 100 < cLine := un0 hr
  have hN := sc_common_of.nd
  dss_nox (dss_cons (ds_while .never (dc_gt (de_var 1) de_int) (dss_one (ds_par 0 1 rfl hN rfl rfl rfl rfl (by decide) rfl rfl (da_cons (de_var 1) (da_cons (de_mod (de_var 0) (de_var 1)) da_nil)) rfl))) (dss_one (ds_ret (de_var 0))))

-- lowest: N = ['a', 'b', 'shared'], lk = []
theorem sc_lowest : FnScope N_lowest ["a", "b"] (defScope s_lowest) := ⟨rfl, rfl, rfl, by decide +kernel, rfl, by decide +kernel, by decide +kernel⟩
theorem b_lowest {P : Program} {w : World} {K : PySem.W.Frag} {mg : Str → Option Value} {base : Heap} {f : Addr} {cdv : Value} {A : Around} {outer : List Env} {s : Shared} {H : Hp} {E : XK} {B : Ba} (d_common_of : Def P w K mg base CX0 1 "common_of" [] 2 S_common_of) (m_abs : mg "abs" = none)
    (hr : Room 1 (A.deeper (envOfC "lowest" (defScope s_lowest) s.heap.objs.size f cdv))) (hgd : A.guards = some []) : DSs (cxOf CX0 P w K mg base N_lowest "lowest" (defScope s_lowest) f cdv A outer s H E) B [] (defBody s_lowest) t_lowest :=
  have hu : A.units + 3 + 100 < cLine := un0 hr
  have hN := sc_lowest.nd
  dss_nox (dss_cons (ds_if (dc_lt (de_var 1) de_int) (dss_one (ds_par 0 1 rfl hN rfl rfl rfl rfl (by decide) rfl rfl (da_cons (de_sub de_int (de_var 0)) (da_cons (de_sub de_int (de_var 1)) da_nil)) rfl)) dss_nil) (dss_cons (ds_set 2 hN rfl rfl (by first | exact .inl rfl | exact .inr rfl) (de_frz (de_call d_common_of len_common_of hr hgd (by decide) rfl (da_cons (de_abs rfl m_abs (da_cons (de_var 0) da_nil)) (da_cons (de_var 1) da_nil))))) (dss_one (ds_ret (de_tup (da_cons (de_fdiv (de_var 0) (de_var 2)) (da_cons (de_fdiv (de_var 1) (de_var 2)) da_nil)))))))

-- is_leans: N = ['book', 'thing', 'lean'], lk = []
theorem sc_is_leans : FnScope N_is_leans ["book", "thing"] (defScope s_is_leans) := ⟨rfl, rfl, rfl, by decide +kernel, rfl, by decide +kernel, by decide +kernel⟩
theorem b_is_leans {P : Program} {w : World} {K : PySem.W.Frag} {mg : Str → Option Value} {base : Heap} {f : Addr} {cdv : Value} {A : Around} {outer : List Env} {s : Shared} {H : Hp} {E : XK} {B : Ba} (m_len : mg "len" = none) (m_all : mg "all" = none) (c_MOST_LEAN : ∃ t, mg "MOST_LEAN" = some (.int 1000000000 t)) (m_any : mg "any" = none)
    (hr : Room 0 (A.deeper (envOfC "is_leans" (defScope s_is_leans) s.heap.objs.size f cdv))) (hgd : A.guards = some []) : DSs (cxOf CX0 P w K mg base N_is_leans "is_leans" (defScope s_is_leans) f cdv A outer s H E) B [] (defBody s_is_leans) t_is_leans :=
  have hu : A.units + 3 + 100 < cLine := un0 hr
  have hN := sc_is_leans.nd
  dss_nox (dss_cons (ds_if (PW.pt (dw_or (dc_ne hu (de_len rfl m_len (da_cons (de_var 1) da_nil)) (de_sub' (de_var 0) de_int)) (dw_or1 (dc_not (dc_val (de_all rfl rfl m_all (da_cons (de_lc [] rfl hN (di_seq (de_var 1)) (own := [("lean", 2)]) (blk_ok (by kernel_rfl)) rfl rfl (fun _ _ _ _ _ => (dg_name 2 hN rfl rfl (by first | exact .inl rfl | exact .inr rfl))) (fun _ _ _ _ _ => dts_nil) (fun _ _ _ _ _ => (de_ch (p := kleb) (q := kleb) op_le op_le de_int (de_var 2) (Exists.elim c_MOST_LEAN fun _ e => de_globI rfl e ⟨_, rfl⟩)))) da_nil))))))) (dss_one (ds_ret de_bl)) dss_nil) (dss_one (ds_ret (de_any rfl rfl m_any (da_cons (de_lc [] rfl hN (di_seq (de_var 1)) (own := [("lean", 2)]) (blk_ok (by kernel_rfl)) rfl rfl (fun _ _ _ _ _ => (dg_name 2 hN rfl rfl (by first | exact .inl rfl | exact .inr rfl))) (fun _ _ _ _ _ => dts_nil) (fun _ _ _ _ _ => (de_gt (de_var 2) de_int))) da_nil)))))

-- need_leans: N = ['book', 'thing'], lk = []
theorem sc_need_leans : FnScope N_need_leans ["book", "thing"] (defScope s_need_leans) := ⟨rfl, rfl, rfl, by decide +kernel, rfl, by decide +kernel, by decide +kernel⟩
theorem b_need_leans {P : Program} {w : World} {K : PySem.W.Frag} {mg : Str → Option Value} {base : Heap} {f : Addr} {cdv : Value} {A : Around} {outer : List Env} {s : Shared} {H : Hp} {E : XK} {B : Ba} (d_is_leans : Def P w K mg base CX0 1 "is_leans" [] 2 S_is_leans) (x_NoWeights : ExcG K mg "NoWeights")
    (hr : Room 1 (A.deeper (envOfC "need_leans" (defScope s_need_leans) s.heap.objs.size f cdv))) (hgd : A.guards = some []) {EX : Xn → List Vl → Prop} (tk : Takes (cxOf (L2.CX P w) P w K mg base N_need_leans "need_leans" (defScope s_need_leans) f cdv A outer s H E) (WD K mg B EX)) (hp : PassesOwn (model P w) (cxOf (L2.CX P w) P w K mg base N_need_leans "need_leans" (defScope s_need_leans) f cdv A outer s H E).A (cxOf (L2.CX P w) P w K mg base N_need_leans "need_leans" (defScope s_need_leans) f cdv A outer s H E).env (cxOf (L2.CX P w) P w K mg base N_need_leans "need_leans" (defScope s_need_leans) f cdv A outer s H E).xe) : DSs (cxOf (L2.CX P w) P w K mg base N_need_leans "need_leans" (defScope s_need_leans) f cdv A outer s H E) B [] (defBody s_need_leans) (t_need_leans EX) :=
  have hu : A.units + 3 + 100 < cLine := un0 hr
  have hN := sc_need_leans.nd
  (dss_one (ds_if (dc_not (dc_val (de_call d_is_leans len_is_leans hr hgd (by decide) rfl (da_cons (de_var 0) (da_cons (de_var 1) da_nil))))) (dss_one (ds_raise x_NoWeights rfl tk rfl)) dss_nil))

-- sum_by: N = ['point', 'leans', 'number', 'lean'], lk = []
theorem sc_sum_by : FnScope N_sum_by ["point", "leans"] (defScope s_sum_by) := ⟨rfl, rfl, rfl, by decide +kernel, rfl, by decide +kernel, by decide +kernel⟩
theorem b_sum_by {P : Program} {w : World} {K : PySem.W.Frag} {mg : Str → Option Value} {base : Heap} {f : Addr} {cdv : Value} {A : Around} {outer : List Env} {s : Shared} {H : Hp} {E : XK} {B : Ba} (m_sum : mg "sum" = none) (m_zip : mg "zip" = none)
    (hr : Room 0 (A.deeper (envOfC "sum_by" (defScope s_sum_by) s.heap.objs.size f cdv))) (hgd : A.guards = some []) : DSs (cxOf CX0 P w K mg base N_sum_by "sum_by" (defScope s_sum_by) f cdv A outer s H E) B [] (defBody s_sum_by) t_sum_by :=
  have hu : A.units + 3 + 100 < cLine := un0 hr
  have hN := sc_sum_by.nd
  dss_nox (dss_one (ds_ret (de_sumA rfl rfl m_sum (da_cons (de_lc [] rfl hN (di_zip2 rfl m_zip (da_cons (de_var 0) (da_cons (de_var 1) da_nil))) (own := [("number", 2), ("lean", 3)]) (blk_ok (by kernel_rfl)) rfl rfl (fun _ _ _ _ _ => (dg_tup rfl (dgs_cons (dg_name 2 hN rfl rfl (by first | exact .inl rfl | exact .inr rfl)) (dgs_cons (dg_name 3 hN rfl rfl (by first | exact .inl rfl | exact .inr rfl)) dgs_nil)))) (fun _ _ _ _ _ => dts_nil) (fun _ _ _ _ _ => (de_mul (de_var 2) (de_var 3)))) da_nil))))

-- sums_by: N = ['book', 'leans', 'point'], lk = []
theorem sc_sums_by : FnScope N_sums_by ["book", "leans"] (defScope s_sums_by) := ⟨rfl, rfl, rfl, by decide +kernel, rfl, by decide +kernel, by decide +kernel⟩
theorem b_sums_by {P : Program} {w : World} {K : PySem.W.Frag} {mg : Str → Option Value} {base : Heap} {f : Addr} {cdv : Value} {A : Around} {outer : List Env} {s : Shared} {H : Hp} {E : XK} {B : Ba} (d_sum_by : Def P w K mg base CX0 1 "sum_by" [] 2 S_sum_by)
    (hr : Room 1 (A.deeper (envOfC "sums_by" (defScope s_sums_by) s.heap.objs.size f cdv))) (hgd : A.guards = some []) : DSs (cxOf CX0 P w K mg base N_sums_by "sums_by" (defScope s_sums_by) f cdv A outer s H E) B [] (defBody s_sums_by) t_sums_by :=
  have hu : A.units + 3 + 100 < cLine := un0 hr
  have hN := sc_sums_by.nd
  dss_nox (dss_one (ds_ret (de_frz (de_lc [] rfl hN (di_seq (de_sub' (de_var 0) de_int)) (own := [("point", 2)]) (blk_ok (by kernel_rfl)) rfl rfl (fun _ _ _ _ _ => (dg_name 2 hN rfl rfl (by first | exact .inl rfl | exact .inr rfl))) (fun _ _ _ _ _ => dts_nil) (fun _ _ _ _ _ => (de_frz (de_call d_sum_by len_sum_by hr hgd (by decide) rfl (da_cons (de_var 2) (da_cons (de_var 1) da_nil)))))))))

-- greatest_in: N = ['worths', 'most', 'number', 'worth'], lk = []
theorem sc_greatest_in : FnScope N_greatest_in ["worths"] (defScope s_greatest_in) := ⟨rfl, rfl, rfl, by decide +kernel, rfl, by decide +kernel, by decide +kernel⟩
theorem b_greatest_in {P : Program} {w : World} {K : PySem.W.Frag} {mg : Str → Option Value} {base : Heap} {f : Addr} {cdv : Value} {A : Around} {outer : List Env} {s : Shared} {H : Hp} {E : XK} {B : Ba} (m_max : mg "max" = none) (m_tuple : mg "tuple" = none) (m_enumerate : mg "enumerate" = none)
    (hr : Room 0 (A.deeper (envOfC "greatest_in" (defScope s_greatest_in) s.heap.objs.size f cdv))) (hgd : A.guards = some []) : DSs (cxOf CX0 P w K mg base N_greatest_in "greatest_in" (defScope s_greatest_in) f cdv A outer s H E) B [] (defBody s_greatest_in) t_greatest_in :=
  have hu : A.units + 3 + 100 < cLine := un0 hr
  have hN := sc_greatest_in.nd
  dss_nox (dss_cons (ds_set 1 hN rfl rfl (by first | exact .inl rfl | exact .inr rfl) (de_maxDf rfl rfl m_max (de_var 0) de_int)) (dss_one (ds_ret (de_tuple rfl m_tuple (da_cons (de_lc [] rfl hN (di_enum rfl m_enumerate (da_cons (de_var 0) da_nil)) (own := [("number", 2), ("worth", 3)]) (blk_ok (by kernel_rfl)) rfl rfl (fun _ _ _ _ _ => (dg_tup rfl (dgs_cons (dg_name 2 hN rfl rfl (by first | exact .inl rfl | exact .inr rfl)) (dgs_cons (dg_name 3 hN rfl rfl (by first | exact .inl rfl | exact .inr rfl)) dgs_nil)))) (fun _ _ _ _ _ => (dts_one (dc_eq hu (de_var 3) (de_var 1)))) (fun _ _ _ _ _ => (de_var 2))) da_nil)))))

-- best_by: N = ['book', 'leans'], lk = []
theorem sc_best_by : FnScope N_best_by ["book", "leans"] (defScope s_best_by) := ⟨rfl, rfl, rfl, by decide +kernel, rfl, by decide +kernel, by decide +kernel⟩
theorem b_best_by {P : Program} {w : World} {K : PySem.W.Frag} {mg : Str → Option Value} {base : Heap} {f : Addr} {cdv : Value} {A : Around} {outer : List Env} {s : Shared} {H : Hp} {E : XK} {B : Ba} (e_need_leans : Def P w K mg base (L2.CX P w) 2 "need_leans" [] 2 S_need_leans) (d_greatest_in : Def P w K mg base CX0 1 "greatest_in" [] 1 S_greatest_in) (d_sums_by : Def P w K mg base CX0 2 "sums_by" [] 2 S_sums_by)
    (hr : Room 2 (A.deeper (envOfC "best_by" (defScope s_best_by) s.heap.objs.size f cdv))) (hgd : A.guards = some []) {EX : Xn → List Vl → Prop} (tk : Takes (cxOf (L2.CX P w) P w K mg base N_best_by "best_by" (defScope s_best_by) f cdv A outer s H E) (WD K mg B EX)) (hp : PassesOwn (model P w) (cxOf (L2.CX P w) P w K mg base N_best_by "best_by" (defScope s_best_by) f cdv A outer s H E).A (cxOf (L2.CX P w) P w K mg base N_best_by "best_by" (defScope s_best_by) f cdv A outer s H E).env (cxOf (L2.CX P w) P w K mg base N_best_by "best_by" (defScope s_best_by) f cdv A outer s H E).xe) : DSs (cxOf (L2.CX P w) P w K mg base N_best_by "best_by" (defScope s_best_by) f cdv A outer s H E) B [] (defBody s_best_by) (t_best_by EX) :=
  have hu : A.units + 3 + 100 < cLine := un0 hr
  have hN := sc_best_by.nd
  (dss_cons (ds_expr (de_callX e_need_leans tk len_need_leans hr hgd (by decide) rfl (da_cons (de_var 0) (da_cons (de_var 1) da_nil)))) (dss_one (ds_ret (de_frz (de_call d_greatest_in len_greatest_in hr hgd (by decide) rfl (da_cons (de_frz (de_call d_sums_by len_sums_by hr hgd (by decide) rfl (da_cons (de_var 0) (da_cons (de_var 1) da_nil)))) da_nil))))))

-- worths_at: N = ['lines', 'at', 'start', 'end'], lk = []
theorem sc_worths_at : FnScope N_worths_at ["lines", "at"] (defScope s_worths_at) := ⟨rfl, rfl, rfl, by decide +kernel, rfl, by decide +kernel, by decide +kernel⟩
theorem b_worths_at {P : Program} {w : World} {K : PySem.W.Frag} {mg : Str → Option Value} {base : Heap} {f : Addr} {cdv : Value} {A : Around} {outer : List Env} {s : Shared} {H : Hp} {E : XK} {B : Ba} 
    (hr : Room 0 (A.deeper (envOfC "worths_at" (defScope s_worths_at) s.heap.objs.size f cdv))) (hgd : A.guards = some []) : DSs (cxOf CX0 P w K mg base N_worths_at "worths_at" (defScope s_worths_at) f cdv A outer s H E) B [] (defBody s_worths_at) t_worths_at :=
  have hu : A.units + 3 + 100 < cLine := un0 hr
  have hN := sc_worths_at.nd
  dss_nox (dss_one (ds_ret (de_frz (de_lc [] rfl hN (di_seq (de_var 0)) (own := [("start", 2), ("end", 3)]) (blk_ok (by kernel_rfl)) rfl rfl (fun _ _ _ _ _ => (dg_tup rfl (dgs_cons (dg_name 2 hN rfl rfl (by first | exact .inl rfl | exact .inr rfl)) (dgs_cons (dg_name 3 hN rfl rfl (by first | exact .inl rfl | exact .inr rfl)) dgs_nil)))) (fun _ _ _ _ _ => dts_nil) (fun _ _ _ _ _ => (de_add (de_mul (de_var 2) (de_sub (de_sub' (de_var 1) de_int) (de_sub' (de_var 1) de_int))) (de_mul (de_var 3) (de_sub' (de_var 1) de_int))))))))

-- is_ahead: N = ['one', 'other'], lk = []
theorem sc_is_ahead : FnScope N_is_ahead ["one", "other"] (defScope s_is_ahead) := ⟨rfl, rfl, rfl, by decide +kernel, rfl, by decide +kernel, by decide +kernel⟩
theorem b_is_ahead {P : Program} {w : World} {K : PySem.W.Frag} {mg : Str → Option Value} {base : Heap} {f : Addr} {cdv : Value} {A : Around} {outer : List Env} {s : Shared} {H : Hp} {E : XK} {B : Ba} 
    (hr : Room 0 (A.deeper (envOfC "is_ahead" (defScope s_is_ahead) s.heap.objs.size f cdv))) (hgd : A.guards = some []) : DSs (cxOf CX0 P w K mg base N_is_ahead "is_ahead" (defScope s_is_ahead) f cdv A outer s H E) B [] (defBody s_is_ahead) t_is_ahead :=
  have hu : A.units + 3 + 100 < cLine := un0 hr
  have hN := sc_is_ahead.nd
  dss_nox (dss_one (ds_ret (de_lt (de_mul (de_sub' (de_var 0) de_int) (de_sub' (de_var 1) de_int)) (de_mul (de_sub' (de_var 1) de_int) (de_sub' (de_var 0) de_int)))))

-- break_behind: N = ['lines', 'here', 'found', 'start', 'end', 'at'], lk = []
theorem sc_break_behind : FnScope N_break_behind ["lines", "here"] (defScope s_break_behind) := ⟨rfl, rfl, rfl, by decide +kernel, rfl, by decide +kernel, by decide +kernel⟩
theorem b_break_behind {P : Program} {w : World} {K : PySem.W.Frag} {mg : Str → Option Value} {base : Heap} {f : Addr} {cdv : Value} {A : Around} {outer : List Env} {s : Shared} {H : Hp} {E : XK} {B : Ba} (d_lowest : Def P w K mg base CX0 2 "lowest" [] 2 S_lowest) (d_is_ahead : Def P w K mg base CX0 1 "is_ahead" [] 2 S_is_ahead)
    (hr : Room 2 (A.deeper (envOfC "break_behind" (defScope s_break_behind) s.heap.objs.size f cdv))) (hgd : A.guards = some []) : DSs (cxOf CX0 P w K mg base N_break_behind "break_behind" (defScope s_break_behind) f cdv A outer s H E) B [] (defBody s_break_behind) t_break_behind :=
  have hu : A.units + 3 + 100 < cLine := un0 hr
  have hN := sc_break_behind.nd
  dss_nox (dss_cons (ds_set 2 hN rfl rfl (by first | exact .inl rfl | exact .inr rfl) de_non) (dss_cons (ds_for [] .never rfl (di_seq (de_var 0)) (dg_tup rfl (dgs_cons (dg_name 3 hN rfl rfl (by first | exact .inl rfl | exact .inr rfl)) (dgs_cons (dg_name 4 hN rfl rfl (by first | exact .inl rfl | exact .inr rfl)) dgs_nil))) (dss_one (ds_if (dc_gt (de_var 4) (de_sub' (de_var 1) de_int)) (dss_cons (ds_set 5 hN rfl rfl (by first | exact .inl rfl | exact .inr rfl) (de_frz (de_call d_lowest len_lowest hr hgd (by decide) rfl (da_cons (de_sub (de_sub' (de_var 1) de_int) (de_var 3)) (da_cons (de_sub (de_add (de_sub (de_sub' (de_var 1) de_int) (de_var 3)) (de_var 4)) (de_sub' (de_var 1) de_int)) da_nil))))) (dss_one (ds_if (PW.pt (dw_or (dc_isN (de_var 2) de_non) (dw_or1 (dc_val (de_call d_is_ahead len_is_ahead hr hgd (by decide) rfl (da_cons (de_var 5) (da_cons (de_var 2) da_nil))))))) (dss_one (ds_set 2 hN rfl rfl (by first | exact .inl rfl | exact .inr rfl) (de_var 5))) dss_nil))) dss_nil))) (dss_one (ds_ret (de_var 2)))))

-- steepest_at: N = ['lines', 'at', 'some', 'worth', 'rise', 'start', 'end'], lk = []
theorem sc_steepest_at : FnScope N_steepest_at ["lines", "at"] (defScope s_steepest_at) := ⟨rfl, rfl, rfl, by decide +kernel, rfl, by decide +kernel, by decide +kernel⟩
theorem b_steepest_at {P : Program} {w : World} {K : PySem.W.Frag} {mg : Str → Option Value} {base : Heap} {f : Addr} {cdv : Value} {A : Around} {outer : List Env} {s : Shared} {H : Hp} {E : XK} {B : Ba} (m_zip : mg "zip" = none) (d_worths_at : Def P w K mg base CX0 1 "worths_at" [] 2 S_worths_at) (m_max : mg "max" = none)
    (hr : Room 1 (A.deeper (envOfC "steepest_at" (defScope s_steepest_at) s.heap.objs.size f cdv))) (hgd : A.guards = some []) : DSs (cxOf CX0 P w K mg base N_steepest_at "steepest_at" (defScope s_steepest_at) f cdv A outer s H E) B [] (defBody s_steepest_at) t_steepest_at :=
  have hu : A.units + 3 + 100 < cLine := un0 hr
  have hN := sc_steepest_at.nd
  dss_nox (dss_cons (ds_setLc [] 2 (fun _ _ _ h => le_frz h) rfl hN rfl rfl rfl rfl (di_zip2 rfl m_zip (da_cons (de_frz (de_call d_worths_at len_worths_at hr hgd (by decide) rfl (da_cons (de_var 0) (da_cons (de_var 1) da_nil)))) (da_cons (de_var 0) da_nil))) (own := [("worth", 3), ("start", 5), ("end", 6)]) (blk_ok (by kernel_rfl)) rfl rfl (fun _ _ _ _ _ => (dg_tup rfl (dgs_cons (dg_name 3 hN rfl rfl (by first | exact .inl rfl | exact .inr rfl)) (dgs_cons (dg_tup rfl (dgs_cons (dg_name 5 hN rfl rfl (by first | exact .inl rfl | exact .inr rfl)) (dgs_cons (dg_name 6 hN rfl rfl (by first | exact .inl rfl | exact .inr rfl)) dgs_nil))) dgs_nil)))) (fun _ _ _ _ _ => dts_nil) (fun _ _ _ _ _ => (de_tup (da_cons (de_var 3) (da_cons (de_sub (de_var 6) (de_var 5)) (da_cons (de_var 5) da_nil)))))) (dss_cons (ds_asg (de_maxP rfl hu rfl m_max (da_cons (de_var 2) da_nil)) (dg_tup rfl (dgs_cons (dg_name 3 hN rfl rfl (by first | exact .inl rfl | exact .inr rfl)) (dgs_cons (dg_name 4 hN rfl rfl (by first | exact .inl rfl | exact .inr rfl)) (dgs_cons (dg_name 5 hN rfl rfl (by first | exact .inl rfl | exact .inr rfl)) dgs_nil))))) (dss_one (ds_ret (de_tup (da_cons (de_var 5) (da_cons (de_add (de_var 5) (de_var 4)) da_nil)))))))

-- breaks_of: N = ['lines', 'found', 'here', 'turn', 'at'], lk = []
theorem sc_breaks_of : FnScope N_breaks_of ["lines"] (defScope s_breaks_of) := ⟨rfl, rfl, rfl, by decide +kernel, rfl, by decide +kernel, by decide +kernel⟩
theorem b_breaks_of {P : Program} {w : World} {K : PySem.W.Frag} {mg : Str → Option Value} {base : Heap} {f : Addr} {cdv : Value} {A : Around} {outer : List Env} {s : Shared} {H : Hp} {E : XK} {B : Ba} (m_max : mg "max" = none) (t_BEGIN : TpI K mg "BEGIN" [0, 1]) (m_range : mg "range" = none) (m_len : mg "len" = none) (d_break_behind : Def P w K mg base CX0 3 "break_behind" [] 2 S_break_behind) (d_steepest_at : Def P w K mg base CX0 2 "steepest_at" [] 2 S_steepest_at) (m_tuple : mg "tuple" = none)
    (hr : Room 3 (A.deeper (envOfC "breaks_of" (defScope s_breaks_of) s.heap.objs.size f cdv))) (hgd : A.guards = some []) : DSs (cxOf CX0 P w K mg base N_breaks_of "breaks_of" (defScope s_breaks_of) f cdv A outer s H E) B [] (defBody s_breaks_of) t_breaks_of :=
  have hu : A.units + 3 + 100 < cLine := un0 hr
  have hN := sc_breaks_of.nd
  dss_nox (dss_cons (ds_set 1 hN rfl rfl (by first | exact .inl rfl | exact .inr rfl) (de_lst da_nil)) (dss_cons (ds_set 2 hN rfl rfl (by first | exact .inl rfl | exact .inr rfl) (de_maxPD rfl hu rfl m_max (de_var 0) (de_tupN (x := "BEGIN") (ns := [0, 1]) rfl t_BEGIN))) (dss_cons (ds_for [] .never rfl (di_range1 rfl m_range (da_cons (de_len rfl m_len (da_cons (de_var 0) da_nil)) da_nil)) (dg_name 3 hN rfl rfl (by first | exact .inl rfl | exact .inr rfl)) (dss_cons (ds_set 4 hN rfl rfl (by first | exact .inl rfl | exact .inr rfl) (de_frz (de_call d_break_behind len_break_behind hr hgd (by decide) rfl (da_cons (de_var 0) (da_cons (de_var 2) da_nil))))) (dss_one (ds_if (dc_notN (de_var 4) de_non) (dss_cons (ds_expr (de_append (de_var 1) (da_cons (de_var 4) da_nil))) (dss_one (ds_set 2 hN rfl rfl (by first | exact .inl rfl | exact .inr rfl) (de_frz (de_call d_steepest_at len_steepest_at hr hgd (by decide) rfl (da_cons (de_var 0) (da_cons (de_var 4) da_nil))))))) dss_nil)))) (dss_one (ds_ret (de_tuple rfl m_tuple (da_cons (de_var 1) da_nil)))))))

-- bests_between: N = ['lines', 'breaks', 'ends', 'at', 'ahead', 'behind', 'number'], lk = []
theorem sc_bests_between : FnScope N_bests_between ["lines", "breaks"] (defScope s_bests_between) := ⟨rfl, rfl, rfl, by decide +kernel, rfl, by decide +kernel, by decide +kernel⟩
theorem b_bests_between {P : Program} {w : World} {K : PySem.W.Frag} {mg : Str → Option Value} {base : Heap} {f : Addr} {cdv : Value} {A : Around} {outer : List Env} {s : Shared} {H : Hp} {E : XK} {B : Ba} (t_BEGIN : TpI K mg "BEGIN" [0, 1]) (t_END : TpI K mg "END" [1, 1]) (d_greatest_in : Def P w K mg base CX0 1 "greatest_in" [] 1 S_greatest_in) (d_worths_at : Def P w K mg base CX0 1 "worths_at" [] 2 S_worths_at) (m_tuple : mg "tuple" = none) (m_zip : mg "zip" = none)
    (hr : Room 1 (A.deeper (envOfC "bests_between" (defScope s_bests_between) s.heap.objs.size f cdv))) (hgd : A.guards = some []) : DSs (cxOf CX0 P w K mg base N_bests_between "bests_between" (defScope s_bests_between) f cdv A outer s H E) B [] (defBody s_bests_between) t_bests_between :=
  have hu : A.units + 3 + 100 < cLine := un0 hr
  have hN := sc_bests_between.nd
  dss_nox (dss_cons (ds_setLc [] 2 (fun _ _ _ h => le_frz h) rfl hN rfl rfl rfl rfl (di_seq (de_add (de_add (de_tup (da_cons (de_tupN (x := "BEGIN") (ns := [0, 1]) rfl t_BEGIN) da_nil)) (de_var 1)) (de_tup (da_cons (de_tupN (x := "END") (ns := [1, 1]) rfl t_END) da_nil)))) (own := [("at", 3)]) (blk_ok (by kernel_rfl)) rfl rfl (fun _ _ _ _ _ => (dg_name 3 hN rfl rfl (by first | exact .inl rfl | exact .inr rfl))) (fun _ _ _ _ _ => dts_nil) (fun _ _ _ _ _ => (de_frz (de_call d_greatest_in len_greatest_in hr hgd (by decide) rfl (da_cons (de_frz (de_call d_worths_at len_worths_at hr hgd (by decide) rfl (da_cons (de_var 0) (da_cons (de_var 3) da_nil)))) da_nil))))) (dss_one (ds_ret (de_tuple rfl m_tuple (da_cons (de_lc [] rfl hN (di_zip2 rfl m_zip (da_cons (de_var 2) (da_cons (de_frz (de_slice (de_var 2) (do_at de_int) do_no)) da_nil))) (own := [("ahead", 4), ("behind", 5)]) (blk_ok (by kernel_rfl)) rfl rfl (fun _ _ _ _ _ => (dg_tup rfl (dgs_cons (dg_name 4 hN rfl rfl (by first | exact .inl rfl | exact .inr rfl)) (dgs_cons (dg_name 5 hN rfl rfl (by first | exact .inl rfl | exact .inr rfl)) dgs_nil)))) (fun _ _ _ _ _ => dts_nil) (fun _ _ _ _ _ => (de_tuple rfl m_tuple (da_cons (de_lc [] rfl hN (di_seq (de_var 4)) (own := [("number", 6)]) (blk_ok (by kernel_rfl)) rfl rfl (fun _ _ _ _ _ => (dg_name 6 hN rfl rfl (by first | exact .inl rfl | exact .inr rfl))) (fun _ _ _ _ _ => (dts_one (dc_in hu (de_var 6) (de_var 5)))) (fun _ _ _ _ _ => (de_var 6))) da_nil)))) da_nil)))))

-- lines_of: N = ['book', 'one', 'other'], lk = []
theorem sc_lines_of : FnScope N_lines_of ["book", "one", "other"] (defScope s_lines_of) := ⟨rfl, rfl, rfl, by decide +kernel, rfl, by decide +kernel, by decide +kernel⟩
theorem b_lines_of {P : Program} {w : World} {K : PySem.W.Frag} {mg : Str → Option Value} {base : Heap} {f : Addr} {cdv : Value} {A : Around} {outer : List Env} {s : Shared} {H : Hp} {E : XK} {B : Ba} (e_need_leans : Def P w K mg base (L2.CX P w) 2 "need_leans" [] 2 S_need_leans) (m_list : mg "list" = none) (m_zip : mg "zip" = none) (d_sums_by : Def P w K mg base CX0 2 "sums_by" [] 2 S_sums_by)
    (hr : Room 2 (A.deeper (envOfC "lines_of" (defScope s_lines_of) s.heap.objs.size f cdv))) (hgd : A.guards = some []) {EX : Xn → List Vl → Prop} (tk : Takes (cxOf (L2.CX P w) P w K mg base N_lines_of "lines_of" (defScope s_lines_of) f cdv A outer s H E) (WD K mg B EX)) (hp : PassesOwn (model P w) (cxOf (L2.CX P w) P w K mg base N_lines_of "lines_of" (defScope s_lines_of) f cdv A outer s H E).A (cxOf (L2.CX P w) P w K mg base N_lines_of "lines_of" (defScope s_lines_of) f cdv A outer s H E).env (cxOf (L2.CX P w) P w K mg base N_lines_of "lines_of" (defScope s_lines_of) f cdv A outer s H E).xe) : DSs (cxOf (L2.CX P w) P w K mg base N_lines_of "lines_of" (defScope s_lines_of) f cdv A outer s H E) B [] (defBody s_lines_of) (t_lines_of EX) :=
  have hu : A.units + 3 + 100 < cLine := un0 hr
  have hN := sc_lines_of.nd
  (dss_cons (ds_expr (de_callX e_need_leans tk len_need_leans hr hgd (by decide) rfl (da_cons (de_var 0) (da_cons (de_var 1) da_nil)))) (dss_cons (ds_expr (de_callX e_need_leans tk len_need_leans hr hgd (by decide) rfl (da_cons (de_var 0) (da_cons (de_var 2) da_nil)))) (dss_one (ds_ret (de_frz (de_listZip rfl rfl m_list rfl m_zip (da_cons (de_frz (de_call d_sums_by len_sums_by hr hgd (by decide) rfl (da_cons (de_var 0) (da_cons (de_var 1) da_nil)))) (da_cons (de_frz (de_call d_sums_by len_sums_by hr hgd (by decide) rfl (da_cons (de_var 0) (da_cons (de_var 2) da_nil)))) da_nil))))))))

-- way_of: N = ['book', 'one', 'other', 'lines', 'breaks'], lk = []
theorem sc_way_of : FnScope N_way_of ["book", "one", "other"] (defScope s_way_of) := ⟨rfl, rfl, rfl, by decide +kernel, rfl, by decide +kernel, by decide +kernel⟩
theorem b_way_of {P : Program} {w : World} {K : PySem.W.Frag} {mg : Str → Option Value} {base : Heap} {f : Addr} {cdv : Value} {A : Around} {outer : List Env} {s : Shared} {H : Hp} {E : XK} {B : Ba} (e_lines_of : Def P w K mg base (L2.CX P w) 3 "lines_of" [] 3 S_lines_of) (d_breaks_of : Def P w K mg base CX0 4 "breaks_of" [] 1 S_breaks_of) (d_bests_between : Def P w K mg base CX0 2 "bests_between" [] 2 S_bests_between)
    (hr : Room 4 (A.deeper (envOfC "way_of" (defScope s_way_of) s.heap.objs.size f cdv))) (hgd : A.guards = some []) {EX : Xn → List Vl → Prop} (tk : Takes (cxOf (L2.CX P w) P w K mg base N_way_of "way_of" (defScope s_way_of) f cdv A outer s H E) (WD K mg B EX)) (hp : PassesOwn (model P w) (cxOf (L2.CX P w) P w K mg base N_way_of "way_of" (defScope s_way_of) f cdv A outer s H E).A (cxOf (L2.CX P w) P w K mg base N_way_of "way_of" (defScope s_way_of) f cdv A outer s H E).env (cxOf (L2.CX P w) P w K mg base N_way_of "way_of" (defScope s_way_of) f cdv A outer s H E).xe) : DSs (cxOf (L2.CX P w) P w K mg base N_way_of "way_of" (defScope s_way_of) f cdv A outer s H E) B [] (defBody s_way_of) (t_way_of EX) :=
  have hu : A.units + 3 + 100 < cLine := un0 hr
  have hN := sc_way_of.nd
  (dss_cons (ds_set 3 hN rfl rfl (by first | exact .inl rfl | exact .inr rfl) (de_frz (de_callX e_lines_of tk len_lines_of hr hgd (by decide) rfl (da_cons (de_var 0) (da_cons (de_var 1) (da_cons (de_var 2) da_nil)))))) (dss_cons (ds_set 4 hN rfl rfl (by first | exact .inl rfl | exact .inr rfl) (de_frz (de_call d_breaks_of len_breaks_of hr hgd (by decide) rfl (da_cons (de_var 3) da_nil)))) (dss_one (ds_ret (de_tup (da_cons (de_var 4) (da_cons (de_frz (de_call d_bests_between len_bests_between hr hgd (by decide) rfl (da_cons (de_var 3) (da_cons (de_var 4) da_nil)))) da_nil)))))))

-- is_inner: N = ['thing'], lk = []
theorem sc_is_inner : FnScope N_is_inner ["thing"] (defScope s_is_inner) := ⟨rfl, rfl, rfl, by decide +kernel, rfl, by decide +kernel, by decide +kernel⟩
theorem b_is_inner {P : Program} {w : World} {K : PySem.W.Frag} {mg : Str → Option Value} {base : Heap} {f : Addr} {cdv : Value} {A : Around} {outer : List Env} {s : Shared} {H : Hp} {E : XK} {B : Ba} (d_lowest : Def P w K mg base CX0 2 "lowest" [] 2 S_lowest)
    (hr : Room 2 (A.deeper (envOfC "is_inner" (defScope s_is_inner) s.heap.objs.size f cdv))) (hgd : A.guards = some []) : DSs (cxOf CX0 P w K mg base N_is_inner "is_inner" (defScope s_is_inner) f cdv A outer s H E) B [] (defBody s_is_inner) t_is_inner :=
  have hu : A.units + 3 + 100 < cLine := un0 hr
  have hN := sc_is_inner.nd
  dss_nox (dss_one (ds_ret (de_frz (de_and (de_ch (p := kltb) (q := kltb) op_lt op_lt de_int (de_sub' (de_var 0) de_int) (de_sub' (de_var 0) de_int)) (de_one (de_eq hu (de_call d_lowest len_lowest hr hgd (by decide) rfl (da_cons (de_sub' (de_var 0) de_int) (da_cons (de_sub' (de_var 0) de_int) da_nil))) (de_var 0)))))))

-- way_right: N = ['book', 'one', 'other', 'thing', 'lines', 'breaks', 'bests', 'at', 'ahead', 'behind'], lk = []
theorem sc_way_right : FnScope N_way_right ["book", "one", "other", "thing"] (defScope s_way_right) := ⟨rfl, rfl, rfl, by decide +kernel, rfl, by decide +kernel, by decide +kernel⟩
theorem b_way_right {P : Program} {w : World} {K : PySem.W.Frag} {mg : Str → Option Value} {base : Heap} {f : Addr} {cdv : Value} {A : Around} {outer : List Env} {s : Shared} {H : Hp} {E : XK} {B : Ba} (e_lines_of : Def P w K mg base (L2.CX P w) 3 "lines_of" [] 3 S_lines_of) (m_all : mg "all" = none) (d_is_inner : Def P w K mg base CX0 3 "is_inner" [] 1 S_is_inner) (m_zip : mg "zip" = none) (d_is_ahead : Def P w K mg base CX0 1 "is_ahead" [] 2 S_is_ahead) (m_len : mg "len" = none) (d_bests_between : Def P w K mg base CX0 2 "bests_between" [] 2 S_bests_between)
    (hr : Room 3 (A.deeper (envOfC "way_right" (defScope s_way_right) s.heap.objs.size f cdv))) (hgd : A.guards = some []) {EX : Xn → List Vl → Prop} (tk : Takes (cxOf (L2.CX P w) P w K mg base N_way_right "way_right" (defScope s_way_right) f cdv A outer s H E) (WD K mg B EX)) (hp : PassesOwn (model P w) (cxOf (L2.CX P w) P w K mg base N_way_right "way_right" (defScope s_way_right) f cdv A outer s H E).A (cxOf (L2.CX P w) P w K mg base N_way_right "way_right" (defScope s_way_right) f cdv A outer s H E).env (cxOf (L2.CX P w) P w K mg base N_way_right "way_right" (defScope s_way_right) f cdv A outer s H E).xe) : DSs (cxOf (L2.CX P w) P w K mg base N_way_right "way_right" (defScope s_way_right) f cdv A outer s H E) B [] (defBody s_way_right) (t_way_right EX) :=
  have hu : A.units + 3 + 100 < cLine := un0 hr
  have hN := sc_way_right.nd
  (dss_cons (ds_set 4 hN rfl rfl (by first | exact .inl rfl | exact .inr rfl) (de_frz (de_callX e_lines_of tk len_lines_of hr hgd (by decide) rfl (da_cons (de_var 0) (da_cons (de_var 1) (da_cons (de_var 2) da_nil)))))) (dss_cons (ds_asg (de_var 3) (dg_tup rfl (dgs_cons (dg_name 5 hN rfl rfl (by first | exact .inl rfl | exact .inr rfl)) (dgs_cons (dg_name 6 hN rfl rfl (by first | exact .inl rfl | exact .inr rfl)) dgs_nil)))) (dss_cons (ds_if (PW.pt (dw_or (dc_not (dc_val (de_all rfl rfl m_all (da_cons (de_lc [] rfl hN (di_seq (de_var 5)) (own := [("at", 7)]) (blk_ok (by kernel_rfl)) rfl rfl (fun _ _ _ _ _ => (dg_name 7 hN rfl rfl (by first | exact .inl rfl | exact .inr rfl))) (fun _ _ _ _ _ => dts_nil) (fun _ _ _ _ _ => (de_frz (de_call d_is_inner len_is_inner hr hgd (by decide) rfl (da_cons (de_var 7) da_nil))))) da_nil)))) (dw_or1 (dc_eq hu (de_var 6) (de_tup da_nil))))) (dss_one (ds_ret de_bl)) dss_nil) (dss_cons (ds_if (dc_not (dc_val (de_all rfl rfl m_all (da_cons (de_lc [] rfl hN (di_zip2 rfl m_zip (da_cons (de_var 5) (da_cons (de_frz (de_slice (de_var 5) (do_at de_int) do_no)) da_nil))) (own := [("ahead", 8), ("behind", 9)]) (blk_ok (by kernel_rfl)) rfl rfl (fun _ _ _ _ _ => (dg_tup rfl (dgs_cons (dg_name 8 hN rfl rfl (by first | exact .inl rfl | exact .inr rfl)) (dgs_cons (dg_name 9 hN rfl rfl (by first | exact .inl rfl | exact .inr rfl)) dgs_nil)))) (fun _ _ _ _ _ => dts_nil) (fun _ _ _ _ _ => (de_frz (de_call d_is_ahead len_is_ahead hr hgd (by decide) rfl (da_cons (de_var 8) (da_cons (de_var 9) da_nil)))))) da_nil)))) (dss_one (ds_ret de_bl)) dss_nil) (dss_cons (ds_if (PW.pt (dw_or (dc_ne hu (de_len rfl m_len (da_cons (de_var 6) da_nil)) (de_add (de_len rfl m_len (da_cons (de_var 5) da_nil)) de_int)) (dw_or1 (dc_ne hu (de_var 6) (de_call d_bests_between len_bests_between hr hgd (by decide) rfl (da_cons (de_var 4) (da_cons (de_var 5) da_nil))))))) (dss_one (ds_ret de_bl)) dss_nil) (dss_cons (ds_if (PW.pt (dw_and (dc_in hu (de_tup da_nil) (de_var 6)) (dw_and1 (dc_ne hu (de_var 4) (de_lst da_nil))))) (dss_one (ds_ret de_bl)) dss_nil) (dss_one (ds_ret (de_all rfl rfl m_all (da_cons (de_lc [] rfl hN (di_zip2 rfl m_zip (da_cons (de_var 6) (da_cons (de_frz (de_slice (de_var 6) (do_at de_int) do_no)) da_nil))) (own := [("ahead", 8), ("behind", 9)]) (blk_ok (by kernel_rfl)) rfl rfl (fun _ _ _ _ _ => (dg_tup rfl (dgs_cons (dg_name 8 hN rfl rfl (by first | exact .inl rfl | exact .inr rfl)) (dgs_cons (dg_name 9 hN rfl rfl (by first | exact .inl rfl | exact .inr rfl)) dgs_nil)))) (fun _ _ _ _ _ => dts_nil) (fun _ _ _ _ _ => (de_ne hu (de_var 8) (de_var 9)))) da_nil))))))))))

-- whole_at: N = ['many', 'at'], lk = []
theorem sc_whole_at : FnScope N_whole_at ["many", "at"] (defScope s_whole_at) := ⟨rfl, rfl, rfl, by decide +kernel, rfl, by decide +kernel, by decide +kernel⟩
theorem b_whole_at {P : Program} {w : World} {K : PySem.W.Frag} {mg : Str → Option Value} {base : Heap} {f : Addr} {cdv : Value} {A : Around} {outer : List Env} {s : Shared} {H : Hp} {E : XK} {B : Ba} 
    (hr : Room 0 (A.deeper (envOfC "whole_at" (defScope s_whole_at) s.heap.objs.size f cdv))) (hgd : A.guards = some []) : DSs (cxOf CX0 P w K mg base N_whole_at "whole_at" (defScope s_whole_at) f cdv A outer s H E) B [] (defBody s_whole_at) t_whole_at :=
  have hu : A.units + 3 + 100 < cLine := un0 hr
  have hN := sc_whole_at.nd
  dss_nox (dss_one (ds_ret (de_frz (de_if (dc_eq hu (de_mod (de_mul (de_var 0) (de_sub' (de_var 1) de_int)) (de_sub' (de_var 1) de_int)) de_int) (de_fdiv (de_mul (de_var 0) (de_sub' (de_var 1) de_int)) (de_sub' (de_var 1) de_int)) de_non))))

-- many_amid: N = ['many', 'ahead', 'behind'], lk = []
theorem sc_many_amid : FnScope N_many_amid ["many", "ahead", "behind"] (defScope s_many_amid) := ⟨rfl, rfl, rfl, by decide +kernel, rfl, by decide +kernel, by decide +kernel⟩
theorem b_many_amid {P : Program} {w : World} {K : PySem.W.Frag} {mg : Str → Option Value} {base : Heap} {f : Addr} {cdv : Value} {A : Around} {outer : List Env} {s : Shared} {H : Hp} {E : XK} {B : Ba} 
    (hr : Room 0 (A.deeper (envOfC "many_amid" (defScope s_many_amid) s.heap.objs.size f cdv))) (hgd : A.guards = some []) : DSs (cxOf CX0 P w K mg base N_many_amid "many_amid" (defScope s_many_amid) f cdv A outer s H E) B [] (defBody s_many_amid) t_many_amid :=
  have hu : A.units + 3 + 100 < cLine := un0 hr
  have hN := sc_many_amid.nd
  dss_nox (dss_one (ds_ret (de_sub (de_fdiv (de_sub (de_mul (de_var 0) (de_sub' (de_var 2) de_int)) de_int) (de_sub' (de_var 2) de_int)) (de_fdiv (de_mul (de_var 0) (de_sub' (de_var 1) de_int)) (de_sub' (de_var 1) de_int)))))

-- shares: N = ['book', 'many', 'found', 'lines', 'breaks', 'ends', 'at', 'best', 'ahead', 'behind', 'point'], lk = []
theorem sc_shares : FnScope N_shares ["book", "many"] (defScope s_shares) := ⟨rfl, rfl, rfl, by decide +kernel, rfl, by decide +kernel, by decide +kernel⟩
theorem b_shares {P : Program} {w : World} {K : PySem.W.Frag} {mg : Str → Option Value} {base : Heap} {f : Addr} {cdv : Value} {A : Around} {outer : List Env} {s : Shared} {H : Hp} {E : XK} {B : Ba} (x_NoMeasures : ExcG K mg "NoMeasures") (c_MOST_SHARES : ∃ t, mg "MOST_SHARES" = some (.int 1000000000000 t)) (x_NoNumber : ExcG K mg "NoNumber") (m_len : mg "len" = none) (d_breaks_of : Def P w K mg base CX0 4 "breaks_of" [] 1 S_breaks_of) (t_BEGIN : TpI K mg "BEGIN" [0, 1]) (t_END : TpI K mg "END" [1, 1]) (d_whole_at : Def P w K mg base CX0 1 "whole_at" [] 2 S_whole_at) (d_greatest_in : Def P w K mg base CX0 1 "greatest_in" [] 1 S_greatest_in) (d_worths_at : Def P w K mg base CX0 1 "worths_at" [] 2 S_worths_at) (m_zip : mg "zip" = none) (d_bests_between : Def P w K mg base CX0 2 "bests_between" [] 2 S_bests_between) (d_many_amid : Def P w K mg base CX0 1 "many_amid" [] 3 S_many_amid) (m_tuple : mg "tuple" = none)
    (hr : Room 4 (A.deeper (envOfC "shares" (defScope s_shares) s.heap.objs.size f cdv))) (hgd : A.guards = some []) {EX : Xn → List Vl → Prop} (tk : Takes (cxOf (L2.CX P w) P w K mg base N_shares "shares" (defScope s_shares) f cdv A outer s H E) (WD K mg B EX)) (hp : PassesOwn (model P w) (cxOf (L2.CX P w) P w K mg base N_shares "shares" (defScope s_shares) f cdv A outer s H E).A (cxOf (L2.CX P w) P w K mg base N_shares "shares" (defScope s_shares) f cdv A outer s H E).env (cxOf (L2.CX P w) P w K mg base N_shares "shares" (defScope s_shares) f cdv A outer s H E).xe) : DSs (cxOf (L2.CX P w) P w K mg base N_shares "shares" (defScope s_shares) f cdv A outer s H E) B [] (defBody s_shares) (t_shares EX) :=
  have hu : A.units + 3 + 100 < cLine := un0 hr
  have hN := sc_shares.nd
  (dss_cons (ds_if (dc_ne hu (de_sub' (de_var 0) de_int) de_int) (dss_one (ds_raise x_NoMeasures rfl tk rfl)) dss_nil) (dss_cons (ds_if (dc_not (dc_ch (p := kleb) (q := kleb) op_le op_le de_int (de_var 1) (Exists.elim c_MOST_SHARES fun _ e => de_globI rfl e ⟨_, rfl⟩))) (dss_one (ds_raise x_NoNumber rfl tk rfl)) dss_nil) (dss_cons (ds_set 2 hN rfl rfl (by first | exact .inl rfl | exact .inr rfl) (de_repA (de_lst (da_cons de_int da_nil)) (de_len rfl m_len (da_cons (de_sub' (de_var 0) de_int) da_nil)))) (dss_cons (ds_setLc [] 3 (fun _ _ _ h => le_frz h) rfl hN rfl rfl rfl rfl (di_seq (de_sub' (de_var 0) de_int)) (own := [("point", 10)]) (blk_ok (by kernel_rfl)) rfl rfl (fun _ _ _ _ _ => (dg_name 10 hN rfl rfl (by first | exact .inl rfl | exact .inr rfl))) (fun _ _ _ _ _ => dts_nil) (fun _ _ _ _ _ => (de_tup (da_cons (de_sub' (de_var 10) de_int) (da_cons (de_sub' (de_var 10) de_int) da_nil))))) (dss_cons (ds_set 4 hN rfl rfl (by first | exact .inl rfl | exact .inr rfl) (de_frz (de_call d_breaks_of len_breaks_of hr hgd (by decide) rfl (da_cons (de_var 3) da_nil)))) (dss_cons (ds_set 5 hN rfl rfl (by first | exact .inl rfl | exact .inr rfl) (de_add (de_add (de_tup (da_cons (de_tupN (x := "BEGIN") (ns := [0, 1]) rfl t_BEGIN) da_nil)) (de_var 4)) (de_tup (da_cons (de_tupN (x := "END") (ns := [1, 1]) rfl t_END) da_nil)))) (dss_cons (ds_for [] hp rfl (di_seq (de_var 5)) (dg_name 6 hN rfl rfl (by first | exact .inl rfl | exact .inr rfl)) (dss_one (ds_if (PW.pt (dw_and (dc_ne hu (de_var 3) (de_lst da_nil)) (dw_and1 (dc_notN (de_call d_whole_at len_whole_at hr hgd (by decide) rfl (da_cons (de_var 1) (da_cons (de_var 6) da_nil))) de_non)))) (dss_one (ds_augS (de_var 2) (de_sub' (de_call d_greatest_in len_greatest_in hr hgd (by decide) rfl (da_cons (de_frz (de_call d_worths_at len_worths_at hr hgd (by decide) rfl (da_cons (de_var 3) (da_cons (de_var 6) da_nil)))) da_nil)) de_int) de_int)) dss_nil))) (dss_cons (ds_for [] hp rfl (di_zip3 rfl m_zip (da_cons (de_frz (de_call d_bests_between len_bests_between hr hgd (by decide) rfl (da_cons (de_var 3) (da_cons (de_var 4) da_nil)))) (da_cons (de_var 5) (da_cons (de_frz (de_slice (de_var 5) (do_at de_int) do_no)) da_nil)))) (dg_tup rfl (dgs_cons (dg_name 7 hN rfl rfl (by first | exact .inl rfl | exact .inr rfl)) (dgs_cons (dg_name 8 hN rfl rfl (by first | exact .inl rfl | exact .inr rfl)) (dgs_cons (dg_name 9 hN rfl rfl (by first | exact .inl rfl | exact .inr rfl)) dgs_nil)))) (dss_one (ds_if (dc_ne hu (de_var 3) (de_lst da_nil)) (dss_one (ds_augS (de_var 2) (de_sub' (de_var 7) de_int) (de_call d_many_amid len_many_amid hr hgd (by decide) rfl (da_cons (de_var 1) (da_cons (de_var 8) (da_cons (de_var 9) da_nil)))))) dss_nil))) (dss_one (ds_ret (de_tuple rfl m_tuple (da_cons (de_var 2) da_nil))))))))))))

-- need_order: N = ['book', 'order'], lk = []
theorem sc_need_order : FnScope N_need_order ["book", "order"] (defScope s_need_order) := ⟨rfl, rfl, rfl, by decide +kernel, rfl, by decide +kernel, by decide +kernel⟩
theorem b_need_order {P : Program} {w : World} {K : PySem.W.Frag} {mg : Str → Option Value} {base : Heap} {f : Addr} {cdv : Value} {A : Around} {outer : List Env} {s : Shared} {H : Hp} {E : XK} {B : Ba} (m_sorted : mg "sorted" = none) (m_list : mg "list" = none) (m_range : mg "range" = none) (x_NoOrder : ExcG K mg "NoOrder")
    (hr : Room 0 (A.deeper (envOfC "need_order" (defScope s_need_order) s.heap.objs.size f cdv))) (hgd : A.guards = some []) {EX : Xn → List Vl → Prop} (tk : Takes (cxOf (L2.CX P w) P w K mg base N_need_order "need_order" (defScope s_need_order) f cdv A outer s H E) (WD K mg B EX)) (hp : PassesOwn (model P w) (cxOf (L2.CX P w) P w K mg base N_need_order "need_order" (defScope s_need_order) f cdv A outer s H E).A (cxOf (L2.CX P w) P w K mg base N_need_order "need_order" (defScope s_need_order) f cdv A outer s H E).env (cxOf (L2.CX P w) P w K mg base N_need_order "need_order" (defScope s_need_order) f cdv A outer s H E).xe) : DSs (cxOf (L2.CX P w) P w K mg base N_need_order "need_order" (defScope s_need_order) f cdv A outer s H E) B [] (defBody s_need_order) (t_need_order EX) :=
  have hu : A.units + 3 + 100 < cLine := un0 hr
  have hN := sc_need_order.nd
  (dss_one (ds_if (dc_ne hu (de_sortedT hu rfl m_sorted (da_cons (de_var 1) da_nil)) (de_listR rfl rfl m_list (dr_1 rfl m_range (de_sub' (de_var 0) de_int)))) (dss_one (ds_raise x_NoOrder rfl tk rfl)) dss_nil))

-- turned: N = ['point', 'order', 'measure'], lk = []
theorem sc_turned : FnScope N_turned ["point", "order"] (defScope s_turned) := ⟨rfl, rfl, rfl, by decide +kernel, rfl, by decide +kernel, by decide +kernel⟩
theorem b_turned {P : Program} {w : World} {K : PySem.W.Frag} {mg : Str → Option Value} {base : Heap} {f : Addr} {cdv : Value} {A : Around} {outer : List Env} {s : Shared} {H : Hp} {E : XK} {B : Ba} (m_tuple : mg "tuple" = none)
    (hr : Room 0 (A.deeper (envOfC "turned" (defScope s_turned) s.heap.objs.size f cdv))) (hgd : A.guards = some []) : DSs (cxOf CX0 P w K mg base N_turned "turned" (defScope s_turned) f cdv A outer s H E) B [] (defBody s_turned) t_turned :=
  have hu : A.units + 3 + 100 < cLine := un0 hr
  have hN := sc_turned.nd
  dss_nox (dss_one (ds_ret (de_tuple rfl m_tuple (da_cons (de_lc [] rfl hN (di_seq (de_var 1)) (own := [("measure", 2)]) (blk_ok (by kernel_rfl)) rfl rfl (fun _ _ _ _ _ => (dg_name 2 hN rfl rfl (by first | exact .inl rfl | exact .inr rfl))) (fun _ _ _ _ _ => dts_nil) (fun _ _ _ _ _ => (de_sub de_int (de_sub' (de_var 0) (de_var 2))))) da_nil))))

-- in_order: N = ['book', 'order', 'point', 'number', 'at'], lk = []
theorem sc_in_order : FnScope N_in_order ["book", "order"] (defScope s_in_order) := ⟨rfl, rfl, rfl, by decide +kernel, rfl, by decide +kernel, by decide +kernel⟩
theorem b_in_order {P : Program} {w : World} {K : PySem.W.Frag} {mg : Str → Option Value} {base : Heap} {f : Addr} {cdv : Value} {A : Around} {outer : List Env} {s : Shared} {H : Hp} {E : XK} {B : Ba} (m_sorted : mg "sorted" = none) (m_enumerate : mg "enumerate" = none) (d_turned : Def P w K mg base CX0 1 "turned" [] 2 S_turned)
    (hr : Room 1 (A.deeper (envOfC "in_order" (defScope s_in_order) s.heap.objs.size f cdv))) (hgd : A.guards = some []) : DSs (cxOf CX0 P w K mg base N_in_order "in_order" (defScope s_in_order) f cdv A outer s H E) B [] (defBody s_in_order) t_in_order :=
  have hu : A.units + 3 + 100 < cLine := un0 hr
  have hN := sc_in_order.nd
  dss_nox (dss_one (ds_ret (de_frz (de_lc [] rfl hN (di_seq (de_sorted hu rfl m_sorted (da_cons (de_lc [] rfl hN (di_enum rfl m_enumerate (da_cons (de_sub' (de_var 0) de_int) da_nil)) (own := [("at", 4), ("point", 2)]) (blk_ok (by kernel_rfl)) rfl rfl (fun _ _ _ _ _ => (dg_tup rfl (dgs_cons (dg_name 4 hN rfl rfl (by first | exact .inl rfl | exact .inr rfl)) (dgs_cons (dg_name 2 hN rfl rfl (by first | exact .inl rfl | exact .inr rfl)) dgs_nil)))) (fun _ _ _ _ _ => dts_nil) (fun _ _ _ _ _ => (de_tup (da_cons (de_frz (de_call d_turned len_turned hr hgd (by decide) rfl (da_cons (de_var 2) (da_cons (de_var 1) da_nil)))) (da_cons (de_var 4) da_nil))))) da_nil))) (own := [("point", 2), ("number", 3)]) (blk_ok (by kernel_rfl)) rfl rfl (fun _ _ _ _ _ => (dg_tup rfl (dgs_cons (dg_name 2 hN rfl rfl (by first | exact .inl rfl | exact .inr rfl)) (dgs_cons (dg_name 3 hN rfl rfl (by first | exact .inl rfl | exact .inr rfl)) dgs_nil)))) (fun _ _ _ _ _ => dts_nil) (fun _ _ _ _ _ => (de_var 3))))))

-- sorted_by: N = ['book', 'order'], lk = []
theorem sc_sorted_by : FnScope N_sorted_by ["book", "order"] (defScope s_sorted_by) := ⟨rfl, rfl, rfl, by decide +kernel, rfl, by decide +kernel, by decide +kernel⟩
theorem b_sorted_by {P : Program} {w : World} {K : PySem.W.Frag} {mg : Str → Option Value} {base : Heap} {f : Addr} {cdv : Value} {A : Around} {outer : List Env} {s : Shared} {H : Hp} {E : XK} {B : Ba} (e_need_order : Def P w K mg base (L2.CX P w) 1 "need_order" [] 2 S_need_order) (m_tuple : mg "tuple" = none) (d_in_order : Def P w K mg base CX0 2 "in_order" [] 2 S_in_order)
    (hr : Room 2 (A.deeper (envOfC "sorted_by" (defScope s_sorted_by) s.heap.objs.size f cdv))) (hgd : A.guards = some []) {EX : Xn → List Vl → Prop} (tk : Takes (cxOf (L2.CX P w) P w K mg base N_sorted_by "sorted_by" (defScope s_sorted_by) f cdv A outer s H E) (WD K mg B EX)) (hp : PassesOwn (model P w) (cxOf (L2.CX P w) P w K mg base N_sorted_by "sorted_by" (defScope s_sorted_by) f cdv A outer s H E).A (cxOf (L2.CX P w) P w K mg base N_sorted_by "sorted_by" (defScope s_sorted_by) f cdv A outer s H E).env (cxOf (L2.CX P w) P w K mg base N_sorted_by "sorted_by" (defScope s_sorted_by) f cdv A outer s H E).xe) : DSs (cxOf (L2.CX P w) P w K mg base N_sorted_by "sorted_by" (defScope s_sorted_by) f cdv A outer s H E) B [] (defBody s_sorted_by) (t_sorted_by EX) :=
  have hu : A.units + 3 + 100 < cLine := un0 hr
  have hN := sc_sorted_by.nd
  (dss_cons (ds_expr (de_callX e_need_order tk len_need_order hr hgd (by decide) rfl (da_cons (de_var 0) (da_cons (de_var 1) da_nil)))) (dss_one (ds_ret (de_tuple rfl m_tuple (da_cons (de_call d_in_order len_in_order hr hgd (by decide) rfl (da_cons (de_var 0) (da_cons (de_var 1) da_nil))) da_nil)))))

-- spread_in: N = ['book', 'measure', 'numbers', 'point'], lk = []
theorem sc_spread_in : FnScope N_spread_in ["book", "measure"] (defScope s_spread_in) := ⟨rfl, rfl, rfl, by decide +kernel, rfl, by decide +kernel, by decide +kernel⟩
theorem b_spread_in {P : Program} {w : World} {K : PySem.W.Frag} {mg : Str → Option Value} {base : Heap} {f : Addr} {cdv : Value} {A : Around} {outer : List Env} {s : Shared} {H : Hp} {E : XK} {B : Ba} (m_max : mg "max" = none) (m_min : mg "min" = none)
    (hr : Room 0 (A.deeper (envOfC "spread_in" (defScope s_spread_in) s.heap.objs.size f cdv))) (hgd : A.guards = some []) : DSs (cxOf CX0 P w K mg base N_spread_in "spread_in" (defScope s_spread_in) f cdv A outer s H E) B [] (defBody s_spread_in) t_spread_in :=
  have hu : A.units + 3 + 100 < cLine := un0 hr
  have hN := sc_spread_in.nd
  dss_nox (dss_cons (ds_setLc [] 2 (fun _ _ _ h => le_frz h) rfl hN rfl rfl rfl rfl (di_seq (de_sub' (de_var 0) de_int)) (own := [("point", 3)]) (blk_ok (by kernel_rfl)) rfl rfl (fun _ _ _ _ _ => (dg_name 3 hN rfl rfl (by first | exact .inl rfl | exact .inr rfl))) (fun _ _ _ _ _ => dts_nil) (fun _ _ _ _ _ => (de_sub' (de_var 3) (de_var 1)))) (dss_one (ds_ret (de_sub (de_maxDf rfl rfl m_max (de_var 2) de_int) (de_minDf rfl rfl m_min (de_var 2) de_int)))))

-- weights_by: N = ['book', 'order', 'found', 'behind', 'measure'], lk = []
theorem sc_weights_by : FnScope N_weights_by ["book", "order"] (defScope s_weights_by) := ⟨rfl, rfl, rfl, by decide +kernel, rfl, by decide +kernel, by decide +kernel⟩
theorem b_weights_by {P : Program} {w : World} {K : PySem.W.Frag} {mg : Str → Option Value} {base : Heap} {f : Addr} {cdv : Value} {A : Around} {outer : List Env} {s : Shared} {H : Hp} {E : XK} {B : Ba} (e_need_order : Def P w K mg base (L2.CX P w) 1 "need_order" [] 2 S_need_order) (m_reversed : mg "reversed" = none) (d_spread_in : Def P w K mg base CX0 1 "spread_in" [] 2 S_spread_in) (m_tuple : mg "tuple" = none)
    (hr : Room 1 (A.deeper (envOfC "weights_by" (defScope s_weights_by) s.heap.objs.size f cdv))) (hgd : A.guards = some []) {EX : Xn → List Vl → Prop} (tk : Takes (cxOf (L2.CX P w) P w K mg base N_weights_by "weights_by" (defScope s_weights_by) f cdv A outer s H E) (WD K mg B EX)) (hp : PassesOwn (model P w) (cxOf (L2.CX P w) P w K mg base N_weights_by "weights_by" (defScope s_weights_by) f cdv A outer s H E).A (cxOf (L2.CX P w) P w K mg base N_weights_by "weights_by" (defScope s_weights_by) f cdv A outer s H E).env (cxOf (L2.CX P w) P w K mg base N_weights_by "weights_by" (defScope s_weights_by) f cdv A outer s H E).xe) : DSs (cxOf (L2.CX P w) P w K mg base N_weights_by "weights_by" (defScope s_weights_by) f cdv A outer s H E) B [] (defBody s_weights_by) (t_weights_by EX) :=
  have hu : A.units + 3 + 100 < cLine := un0 hr
  have hN := sc_weights_by.nd
  (dss_cons (ds_expr (de_callX e_need_order tk len_need_order hr hgd (by decide) rfl (da_cons (de_var 0) (da_cons (de_var 1) da_nil)))) (dss_cons (ds_set 2 hN rfl rfl (by first | exact .inl rfl | exact .inr rfl) (de_repA (de_lst (da_cons de_int da_nil)) (de_sub' (de_var 0) de_int))) (dss_cons (ds_set 3 hN rfl rfl (by first | exact .inl rfl | exact .inr rfl) de_int) (dss_cons (ds_for [] hp rfl (di_revT rfl m_reversed (de_var 1)) (dg_name 4 hN rfl rfl (by first | exact .inl rfl | exact .inr rfl)) (dss_cons (ds_asg (de_add (de_var 3) de_int) (dg_sub (de_var 2) (de_var 4))) (dss_one (ds_set 3 hN rfl rfl (by first | exact .inl rfl | exact .inr rfl) (de_frz (de_add (de_var 3) (de_mul (de_sub' (de_var 2) (de_var 4)) (de_call d_spread_in len_spread_in hr hgd (by decide) rfl (da_cons (de_var 0) (da_cons (de_var 4) da_nil)))))))))) (dss_one (ds_ret (de_tuple rfl m_tuple (da_cons (de_var 2) da_nil))))))))

-- is_greater_by: N = ['weights', 'one', 'other'], lk = []
theorem sc_is_greater_by : FnScope N_is_greater_by ["weights", "one", "other"] (defScope s_is_greater_by) := ⟨rfl, rfl, rfl, by decide +kernel, rfl, by decide +kernel, by decide +kernel⟩
theorem b_is_greater_by {P : Program} {w : World} {K : PySem.W.Frag} {mg : Str → Option Value} {base : Heap} {f : Addr} {cdv : Value} {A : Around} {outer : List Env} {s : Shared} {H : Hp} {E : XK} {B : Ba} (d_sum_by : Def P w K mg base CX0 1 "sum_by" [] 2 S_sum_by)
    (hr : Room 1 (A.deeper (envOfC "is_greater_by" (defScope s_is_greater_by) s.heap.objs.size f cdv))) (hgd : A.guards = some []) : DSs (cxOf CX0 P w K mg base N_is_greater_by "is_greater_by" (defScope s_is_greater_by) f cdv A outer s H E) B [] (defBody s_is_greater_by) t_is_greater_by :=
  have hu : A.units + 3 + 100 < cLine := un0 hr
  have hN := sc_is_greater_by.nd
  dss_nox (dss_one (ds_ret (de_frz (de_or (de_eq hu (de_var 1) (de_var 2)) (de_one (de_gt (de_call d_sum_by len_sum_by hr hgd (by decide) rfl (da_cons (de_var 1) (da_cons (de_var 0) da_nil))) (de_call d_sum_by len_sum_by hr hgd (by decide) rfl (da_cons (de_var 2) (da_cons (de_var 0) da_nil)))))))))

-- go_by: N = ['book', 'order', 'thing', 'some', 'weight', 'number', 'ahead', 'behind'], lk = []
theorem sc_go_by : FnScope N_go_by ["book", "order", "thing"] (defScope s_go_by) := ⟨rfl, rfl, rfl, by decide +kernel, rfl, by decide +kernel, by decide +kernel⟩
theorem b_go_by {P : Program} {w : World} {K : PySem.W.Frag} {mg : Str → Option Value} {base : Heap} {f : Addr} {cdv : Value} {A : Around} {outer : List Env} {s : Shared} {H : Hp} {E : XK} {B : Ba} (e_need_order : Def P w K mg base (L2.CX P w) 1 "need_order" [] 2 S_need_order) (m_len : mg "len" = none) (m_all : mg "all" = none) (d_in_order : Def P w K mg base CX0 2 "in_order" [] 2 S_in_order) (m_zip : mg "zip" = none) (d_is_greater_by : Def P w K mg base CX0 2 "is_greater_by" [] 3 S_is_greater_by)
    (hr : Room 2 (A.deeper (envOfC "go_by" (defScope s_go_by) s.heap.objs.size f cdv))) (hgd : A.guards = some []) {EX : Xn → List Vl → Prop} (tk : Takes (cxOf (L2.CX P w) P w K mg base N_go_by "go_by" (defScope s_go_by) f cdv A outer s H E) (WD K mg B EX)) (hp : PassesOwn (model P w) (cxOf (L2.CX P w) P w K mg base N_go_by "go_by" (defScope s_go_by) f cdv A outer s H E).A (cxOf (L2.CX P w) P w K mg base N_go_by "go_by" (defScope s_go_by) f cdv A outer s H E).env (cxOf (L2.CX P w) P w K mg base N_go_by "go_by" (defScope s_go_by) f cdv A outer s H E).xe) : DSs (cxOf (L2.CX P w) P w K mg base N_go_by "go_by" (defScope s_go_by) f cdv A outer s H E) B [] (defBody s_go_by) (t_go_by EX) :=
  have hu : A.units + 3 + 100 < cLine := un0 hr
  have hN := sc_go_by.nd
  (dss_cons (ds_expr (de_callX e_need_order tk len_need_order hr hgd (by decide) rfl (da_cons (de_var 0) (da_cons (de_var 1) da_nil)))) (dss_cons (ds_if (PW.pt (dw_or (dc_ne hu (de_len rfl m_len (da_cons (de_var 2) da_nil)) (de_sub' (de_var 0) de_int)) (dw_or1 (dc_not (dc_val (de_all rfl rfl m_all (da_cons (de_lc [] rfl hN (di_seq (de_var 2)) (own := [("weight", 4)]) (blk_ok (by kernel_rfl)) rfl rfl (fun _ _ _ _ _ => (dg_name 4 hN rfl rfl (by first | exact .inl rfl | exact .inr rfl))) (fun _ _ _ _ _ => dts_nil) (fun _ _ _ _ _ => (de_ge (de_var 4) de_int))) da_nil))))))) (dss_one (ds_ret de_bl)) dss_nil) (dss_cons (ds_setLc [] 3 (fun _ _ _ h => le_frz h) rfl hN rfl rfl rfl rfl (di_seq (de_call d_in_order len_in_order hr hgd (by decide) rfl (da_cons (de_var 0) (da_cons (de_var 1) da_nil)))) (own := [("number", 5)]) (blk_ok (by kernel_rfl)) rfl rfl (fun _ _ _ _ _ => (dg_name 5 hN rfl rfl (by first | exact .inl rfl | exact .inr rfl))) (fun _ _ _ _ _ => dts_nil) (fun _ _ _ _ _ => (de_sub' (de_sub' (de_var 0) de_int) (de_var 5)))) (dss_one (ds_ret (de_all rfl rfl m_all (da_cons (de_lc [] rfl hN (di_zip2 rfl m_zip (da_cons (de_var 3) (da_cons (de_frz (de_slice (de_var 3) (do_at de_int) do_no)) da_nil))) (own := [("ahead", 6), ("behind", 7)]) (blk_ok (by kernel_rfl)) rfl rfl (fun _ _ _ _ _ => (dg_tup rfl (dgs_cons (dg_name 6 hN rfl rfl (by first | exact .inl rfl | exact .inr rfl)) (dgs_cons (dg_name 7 hN rfl rfl (by first | exact .inl rfl | exact .inr rfl)) dgs_nil)))) (fun _ _ _ _ _ => dts_nil) (fun _ _ _ _ _ => (de_frz (de_call d_is_greater_by len_is_greater_by hr hgd (by decide) rfl (da_cons (de_var 2) (da_cons (de_var 6) (da_cons (de_var 7) da_nil))))))) da_nil)))))))

-- _law_new_bag: N = ['cell', 'at', 'digits'], lk = []
theorem sc__law_new_bag : FnScope N__law_new_bag ["cell", "at"] (defScope s__law_new_bag) := ⟨rfl, rfl, rfl, by decide +kernel, rfl, by decide +kernel, by decide +kernel⟩
theorem b__law_new_bag {P : Program} {w : World} {K : PySem.W.Frag} {mg : Str → Option Value} {base : Heap} {f : Addr} {cdv : Value} {A : Around} {outer : List Env} {s : Shared} {H : Hp} {E : XK} {B : Ba} 
    (hr : Room 0 (A.deeper (envOfC "_law_new_bag" (defScope s__law_new_bag) s.heap.objs.size f cdv))) (hgd : A.guards = some []) : DSs (cxOf CX0 P w K mg base N__law_new_bag "_law_new_bag" (defScope s__law_new_bag) f cdv A outer s H E) B [] (defBody s__law_new_bag) t__law_new_bag :=
  have hu : A.units + 3 + 100 < cLine := un0 hr
  have hN := sc__law_new_bag.nd
  dss_nox (dss_cons (ds_set 2 hN rfl rfl (by first | exact .inl rfl | exact .inr rfl) de_int) (dss_cons (ds_if (dc_ge (de_var 0) (de_pow de_int de_int)) (dss_one (ds_set 2 hN rfl rfl (by first | exact .inl rfl | exact .inr rfl) (de_sub (de_var 0) (de_pow de_int de_int)))) dss_nil) (dss_one (ds_ret (de_lst (da_cons (de_var 2) (da_cons (de_add (de_mod (de_var 0) de_int) (de_mul de_int (de_var 1))) (da_cons de_int da_nil))))))))

-- _law_draw: N = ['bag', 'many', 'digit', 'primes', 'one', 'two'], lk = [0]
theorem sc__law_draw : FnScope N__law_draw ["bag", "many"] (defScope s__law_draw) := ⟨rfl, rfl, rfl, by decide +kernel, rfl, by decide +kernel, by decide +kernel⟩
theorem b__law_draw {P : Program} {w : World} {K : PySem.W.Frag} {mg : Str → Option Value} {base : Heap} {f : Addr} {cdv : Value} {A : Around} {outer : List Env} {s : Shared} {H : Hp} {E : XK} {B : Ba} 
    (hr : Room 0 (A.deeper (envOfC "_law_draw" (defScope s__law_draw) s.heap.objs.size f cdv))) (hgd : A.guards = some []) : DSs (cxOf CX0 P w K mg base N__law_draw "_law_draw" (defScope s__law_draw) f cdv A outer s H E) B [0] (defBody s__law_draw) t__law_draw :=
  have hu : A.units + 3 + 100 < cLine := un0 hr
  have hN := sc__law_draw.nd
  dss_nox (dss_cons (ds_if (dc_gt (de_sub' (de_var 0) de_int) de_int) (dss_cons (ds_set 2 hN rfl rfl (by first | exact .inl rfl | exact .inr rfl) (de_mod (de_sub' (de_var 0) de_int) (de_var 1))) (dss_cons (ds_asg (de_fdiv (de_sub' (de_var 0) de_int) (de_var 1)) (dg_sub (de_var 0) de_int)) (dss_one (ds_ret (de_var 2))))) dss_nil) (dss_cons (ds_asg (de_add (de_sub' (de_var 0) de_int) de_int) (dg_sub (de_var 0) de_int)) (dss_cons (ds_set 3 hN rfl rfl (by first | exact .inl rfl | exact .inr rfl) (de_frz (de_lst (da_cons de_int (da_cons de_int (da_cons de_int (da_cons de_int (da_cons de_int (da_cons de_int (da_cons de_int da_nil)))))))))) (dss_cons (ds_set 4 hN rfl rfl (by first | exact .inl rfl | exact .inr rfl) (de_mod (de_pow (de_add (de_mul (de_mod (de_sub' (de_var 0) de_int) (de_sub' (de_var 3) (de_mod (de_sub' (de_var 0) de_int) de_int))) (de_add (de_mul de_int (de_sub' (de_var 0) de_int)) de_int)) (de_mul de_int (de_sub' (de_var 0) de_int))) de_int) (de_sub' (de_var 3) (de_mod (de_add (de_sub' (de_var 0) de_int) de_int) de_int)))) (dss_cons (ds_set 5 hN rfl rfl (by first | exact .inl rfl | exact .inr rfl) (de_add (de_add (de_mul (de_var 4) (de_var 4)) (de_mod (de_sub' (de_var 0) de_int) de_int)) (de_mul de_int (de_sub' (de_var 0) de_int)))) (dss_one (ds_ret (de_mod (de_fdiv (de_mod (de_pow (de_var 5) de_int) (de_sub' (de_var 3) (de_mod (de_add (de_sub' (de_var 0) de_int) de_int) de_int))) de_int) (de_var 1)))))))))

-- _law_wide: N = ['bag', 'many'], lk = [0]
theorem sc__law_wide : FnScope N__law_wide ["bag", "many"] (defScope s__law_wide) := ⟨rfl, rfl, rfl, by decide +kernel, rfl, by decide +kernel, by decide +kernel⟩
theorem b__law_wide {P : Program} {w : World} {K : PySem.W.Frag} {mg : Str → Option Value} {base : Heap} {f : Addr} {cdv : Value} {A : Around} {outer : List Env} {s : Shared} {H : Hp} {E : XK} {B : Ba} (d__law_draw : Def P w K mg base CX0 1 "_law_draw" [0] 2 S__law_draw)
    (hr : Room 1 (A.deeper (envOfC "_law_wide" (defScope s__law_wide) s.heap.objs.size f cdv))) (hgd : A.guards = some []) : DSs (cxOf CX0 P w K mg base N__law_wide "_law_wide" (defScope s__law_wide) f cdv A outer s H E) B [0] (defBody s__law_wide) t__law_wide :=
  have hu : A.units + 3 + 100 < cLine := un0 hr
  have hN := sc__law_wide.nd
  dss_nox (dss_one (ds_ret (de_mod (de_add (de_mul (de_call d__law_draw len__law_draw hr hgd (by decide) rfl (da_cons (de_var 0) (da_cons (de_pow de_int de_int) da_nil))) (de_pow de_int de_int)) (de_call d__law_draw len__law_draw hr hgd (by decide) rfl (da_cons (de_var 0) (da_cons (de_pow de_int de_int) da_nil)))) (de_var 1))))

-- _law_a_number: N = ['bag', 'kind'], lk = [0]
theorem sc__law_a_number : FnScope N__law_a_number ["bag", "kind"] (defScope s__law_a_number) := ⟨rfl, rfl, rfl, by decide +kernel, rfl, by decide +kernel, by decide +kernel⟩
theorem b__law_a_number {P : Program} {w : World} {K : PySem.W.Frag} {mg : Str → Option Value} {base : Heap} {f : Addr} {cdv : Value} {A : Around} {outer : List Env} {s : Shared} {H : Hp} {E : XK} {B : Ba} (d__law_draw : Def P w K mg base CX0 1 "_law_draw" [0] 2 S__law_draw) (d__law_wide : Def P w K mg base CX0 2 "_law_wide" [0] 2 S__law_wide)
    (hr : Room 2 (A.deeper (envOfC "_law_a_number" (defScope s__law_a_number) s.heap.objs.size f cdv))) (hgd : A.guards = some []) : DSs (cxOf CX0 P w K mg base N__law_a_number "_law_a_number" (defScope s__law_a_number) f cdv A outer s H E) B [0] (defBody s__law_a_number) t__law_a_number :=
  have hu : A.units + 3 + 100 < cLine := un0 hr
  have hN := sc__law_a_number.nd
  dss_nox (dss_cons (ds_if (dc_eq hu (de_var 1) de_int) (dss_one (ds_ret (de_frz (de_call d__law_draw len__law_draw hr hgd (by decide) rfl (da_cons (de_var 0) (da_cons de_int da_nil)))))) dss_nil) (dss_cons (ds_if (dc_eq hu (de_var 1) de_int) (dss_one (ds_ret (de_sub (de_call d__law_draw len__law_draw hr hgd (by decide) rfl (da_cons (de_var 0) (da_cons de_int da_nil))) de_int))) dss_nil) (dss_cons (ds_if (dc_eq hu (de_var 1) de_int) (dss_one (ds_ret (de_sub (de_mul de_int (de_call d__law_draw len__law_draw hr hgd (by decide) rfl (da_cons (de_var 0) (da_cons de_int da_nil)))) de_int))) dss_nil) (dss_cons (ds_if (dc_eq hu (de_var 1) de_int) (dss_one (ds_ret (de_sub' (de_lst (da_cons (de_sub (de_pow de_int de_int) (de_call d__law_draw len__law_draw hr hgd (by decide) rfl (da_cons (de_var 0) (da_cons de_int da_nil)))) (da_cons (de_sub (de_call d__law_draw len__law_draw hr hgd (by decide) rfl (da_cons (de_var 0) (da_cons de_int da_nil))) (de_pow de_int de_int)) da_nil))) (de_call d__law_draw len__law_draw hr hgd (by decide) rfl (da_cons (de_var 0) (da_cons de_int da_nil)))))) dss_nil) (dss_one (ds_ret (de_sub (de_call d__law_wide len__law_wide hr hgd (by decide) rfl (da_cons (de_var 0) (da_cons (de_add (de_mul de_int (de_pow de_int de_int)) de_int) da_nil))) (de_pow de_int de_int))))))))

-- _law_a_book: N = ['bag', 'measures', 'most', 'kind', 'shape', 'many', 'found', 'turn', 'point', 'place', 'measure'], lk = [0]
theorem sc__law_a_book : FnScope N__law_a_book ["bag", "measures", "most"] (defScope s__law_a_book) := ⟨rfl, rfl, rfl, by decide +kernel, rfl, by decide +kernel, by decide +kernel⟩
theorem b__law_a_book {P : Program} {w : World} {K : PySem.W.Frag} {mg : Str → Option Value} {base : Heap} {f : Addr} {cdv : Value} {A : Around} {outer : List Env} {s : Shared} {H : Hp} {E : XK} {B : Ba} (d__law_draw : Def P w K mg base CX0 1 "_law_draw" [0] 2 S__law_draw) (m_min : mg "min" = none) (m_range : mg "range" = none) (d__law_a_number : Def P w K mg base CX0 3 "_law_a_number" [0] 2 S__law_a_number) (m_list : mg "list" = none) (m_len : mg "len" = none) (m_max : mg "max" = none) (m_sum : mg "sum" = none) (m_tuple : mg "tuple" = none)
    (hr : Room 3 (A.deeper (envOfC "_law_a_book" (defScope s__law_a_book) s.heap.objs.size f cdv))) (hgd : A.guards = some []) : DSs (cxOf CX0 P w K mg base N__law_a_book "_law_a_book" (defScope s__law_a_book) f cdv A outer s H E) B [0] (defBody s__law_a_book) t__law_a_book :=
  have hu : A.units + 3 + 100 < cLine := un0 hr
  have hN := sc__law_a_book.nd
  dss_nox (dss_cons (ds_set 3 hN rfl rfl (by first | exact .inl rfl | exact .inr rfl) (de_frz (de_call d__law_draw len__law_draw hr hgd (by decide) rfl (da_cons (de_var 0) (da_cons de_int da_nil))))) (dss_cons (ds_set 4 hN rfl rfl (by first | exact .inl rfl | exact .inr rfl) (de_frz (de_call d__law_draw len__law_draw hr hgd (by decide) rfl (da_cons (de_var 0) (da_cons de_int da_nil))))) (dss_cons (ds_set 5 hN rfl rfl (by first | exact .inl rfl | exact .inr rfl) (de_min2 rfl rfl m_min (da_cons (de_var 2) (da_cons (de_sub' (de_lst (da_cons (de_frz (de_call d__law_draw len__law_draw hr hgd (by decide) rfl (da_cons (de_var 0) (da_cons (de_add (de_var 2) de_int) da_nil)))) (da_cons (de_var 2) (da_cons (de_frz (de_add de_int (de_call d__law_draw len__law_draw hr hgd (by decide) rfl (da_cons (de_var 0) (da_cons de_int da_nil))))) da_nil)))) (de_call d__law_draw len__law_draw hr hgd (by decide) rfl (da_cons (de_var 0) (da_cons de_int da_nil)))) da_nil)))) (dss_cons (ds_set 6 hN rfl rfl (by first | exact .inl rfl | exact .inr rfl) (de_lst da_nil)) (dss_cons (ds_for [] .never rfl (di_range1 rfl m_range (da_cons (de_var 5) da_nil)) (dg_name 7 hN rfl rfl (by first | exact .inl rfl | exact .inr rfl)) (dss_cons (ds_setLc [] 8 (fun _ _ _ h => h) rfl hN rfl rfl rfl rfl (di_range1 rfl m_range (da_cons (de_var 1) da_nil)) (own := [("measure", 10)]) (blk_ok (by kernel_rfl)) rfl rfl (fun _ _ _ _ _ => (dg_name 10 hN rfl rfl (by first | exact .inl rfl | exact .inr rfl))) (fun _ _ _ _ _ => dts_nil) (fun _ _ _ _ _ => (de_frz (de_call d__law_a_number len__law_a_number hr hgd (by decide) rfl (da_cons (de_var 0) (da_cons (de_var 3) da_nil)))))) (dss_cons (ds_if (PW.pt (dw_and (dc_eq hu (de_var 4) de_int) (dw_and (dc_ne hu (de_var 6) (de_lst da_nil)) (dw_and1 (dc_eq hu (de_call d__law_draw len__law_draw hr hgd (by decide) rfl (da_cons (de_var 0) (da_cons de_int da_nil))) de_int))))) (dss_one (ds_set 8 hN rfl rfl (by first | exact .inl rfl | exact .inr rfl) (de_list rfl m_list (da_cons (de_sub' (de_var 6) (de_call d__law_draw len__law_draw hr hgd (by decide) rfl (da_cons (de_var 0) (da_cons (de_len rfl m_len (da_cons (de_var 6) da_nil)) da_nil)))) da_nil)))) dss_nil) (dss_cons (ds_if (dc_eq hu (de_var 4) de_int) (dss_one (ds_asg (de_max2 rfl rfl m_max (da_cons (de_sub de_int (de_pow de_int de_int)) (da_cons (de_min2 rfl rfl m_min (da_cons (de_pow de_int de_int) (da_cons (de_sub (de_sub' (de_var 8) (de_neg de_int)) (de_sumA rfl rfl m_sum (da_cons (de_var 8) da_nil))) da_nil))) da_nil))) (dg_sub (de_var 8) (de_neg de_int)))) dss_nil) (dss_cons (ds_if (dc_eq hu (de_var 4) de_int) (dss_cons (ds_set 9 hN rfl rfl (by first | exact .inl rfl | exact .inr rfl) (de_sub (de_call d__law_draw len__law_draw hr hgd (by decide) rfl (da_cons (de_var 0) (da_cons de_int da_nil))) de_int)) (dss_cons (ds_asg (de_var 9) (dg_sub (de_var 8) de_int)) (dss_one (ds_asg (de_sub de_int (de_mul (de_var 9) (de_var 9))) (dg_sub (de_var 8) (de_neg de_int)))))) dss_nil) (dss_one (ds_expr (de_append (de_var 6) (da_cons (de_tuple rfl m_tuple (da_cons (de_var 8) da_nil)) da_nil))))))))) (dss_one (ds_ret (de_tup (da_cons (de_var 1) (da_cons (de_tuple rfl m_tuple (da_cons (de_var 6) da_nil)) da_nil))))))))))

-- _law_a_lean: N = ['bag', 'kind'], lk = [0]
theorem sc__law_a_lean : FnScope N__law_a_lean ["bag", "kind"] (defScope s__law_a_lean) := ⟨rfl, rfl, rfl, by decide +kernel, rfl, by decide +kernel, by decide +kernel⟩
theorem b__law_a_lean {P : Program} {w : World} {K : PySem.W.Frag} {mg : Str → Option Value} {base : Heap} {f : Addr} {cdv : Value} {A : Around} {outer : List Env} {s : Shared} {H : Hp} {E : XK} {B : Ba} (d__law_draw : Def P w K mg base CX0 1 "_law_draw" [0] 2 S__law_draw) (d__law_wide : Def P w K mg base CX0 2 "_law_wide" [0] 2 S__law_wide)
    (hr : Room 2 (A.deeper (envOfC "_law_a_lean" (defScope s__law_a_lean) s.heap.objs.size f cdv))) (hgd : A.guards = some []) : DSs (cxOf CX0 P w K mg base N__law_a_lean "_law_a_lean" (defScope s__law_a_lean) f cdv A outer s H E) B [0] (defBody s__law_a_lean) t__law_a_lean :=
  have hu : A.units + 3 + 100 < cLine := un0 hr
  have hN := sc__law_a_lean.nd
  dss_nox (dss_cons (ds_if (dc_eq hu (de_var 1) de_int) (dss_one (ds_ret (de_frz (de_call d__law_draw len__law_draw hr hgd (by decide) rfl (da_cons (de_var 0) (da_cons de_int da_nil)))))) dss_nil) (dss_cons (ds_if (dc_eq hu (de_var 1) de_int) (dss_one (ds_ret (de_frz (de_call d__law_draw len__law_draw hr hgd (by decide) rfl (da_cons (de_var 0) (da_cons de_int da_nil)))))) dss_nil) (dss_cons (ds_if (dc_eq hu (de_var 1) de_int) (dss_one (ds_ret (de_frz (de_call d__law_wide len__law_wide hr hgd (by decide) rfl (da_cons (de_var 0) (da_cons (de_add (de_pow de_int de_int) de_int) da_nil)))))) dss_nil) (dss_cons (ds_if (dc_eq hu (de_var 1) de_int) (dss_one (ds_ret (de_sub (de_pow de_int de_int) (de_call d__law_draw len__law_draw hr hgd (by decide) rfl (da_cons (de_var 0) (da_cons de_int da_nil)))))) dss_nil) (dss_one (ds_ret (de_sub (de_var 1) de_int)))))))

-- _law_some_leans: N = ['bag', 'measures', 'kind', 'found', 'measure'], lk = [0]
theorem sc__law_some_leans : FnScope N__law_some_leans ["bag", "measures"] (defScope s__law_some_leans) := ⟨rfl, rfl, rfl, by decide +kernel, rfl, by decide +kernel, by decide +kernel⟩
theorem b__law_some_leans {P : Program} {w : World} {K : PySem.W.Frag} {mg : Str → Option Value} {base : Heap} {f : Addr} {cdv : Value} {A : Around} {outer : List Env} {s : Shared} {H : Hp} {E : XK} {B : Ba} (d__law_draw : Def P w K mg base CX0 1 "_law_draw" [0] 2 S__law_draw) (m_range : mg "range" = none) (d__law_a_lean : Def P w K mg base CX0 3 "_law_a_lean" [0] 2 S__law_a_lean) (m_tuple : mg "tuple" = none)
    (hr : Room 3 (A.deeper (envOfC "_law_some_leans" (defScope s__law_some_leans) s.heap.objs.size f cdv))) (hgd : A.guards = some []) : DSs (cxOf CX0 P w K mg base N__law_some_leans "_law_some_leans" (defScope s__law_some_leans) f cdv A outer s H E) B [0] (defBody s__law_some_leans) t__law_some_leans :=
  have hu : A.units + 3 + 100 < cLine := un0 hr
  have hN := sc__law_some_leans.nd
  dss_nox (dss_cons (ds_set 2 hN rfl rfl (by first | exact .inl rfl | exact .inr rfl) (de_frz (de_call d__law_draw len__law_draw hr hgd (by decide) rfl (da_cons (de_var 0) (da_cons de_int da_nil))))) (dss_cons (ds_setLc [] 3 (fun _ _ _ h => h) rfl hN rfl rfl rfl rfl (di_range1 rfl m_range (da_cons (de_var 1) da_nil)) (own := [("measure", 4)]) (blk_ok (by kernel_rfl)) rfl rfl (fun _ _ _ _ _ => (dg_name 4 hN rfl rfl (by first | exact .inl rfl | exact .inr rfl))) (fun _ _ _ _ _ => dts_nil) (fun _ _ _ _ _ => (de_frz (de_call d__law_a_lean len__law_a_lean hr hgd (by decide) rfl (da_cons (de_var 0) (da_cons (de_var 2) da_nil)))))) (dss_cons (ds_if (dc_eq hu (de_var 3) (de_repA (de_lst (da_cons de_int da_nil)) (de_var 1))) (dss_one (ds_asg (de_frz (de_add de_int (de_call d__law_draw len__law_draw hr hgd (by decide) rfl (da_cons (de_var 0) (da_cons de_int da_nil))))) (dg_sub (de_var 3) (de_call d__law_draw len__law_draw hr hgd (by decide) rfl (da_cons (de_var 0) (da_cons (de_var 1) da_nil)))))) dss_nil) (dss_one (ds_ret (de_tuple rfl m_tuple (da_cons (de_var 3) da_nil)))))))

-- _law_asked: N = ['door', 'book', 'one', 'other', 'thing'], lk = []
theorem sc__law_asked : FnScope N__law_asked ["door", "book", "one", "other", "thing"] (defScope s__law_asked) := ⟨rfl, rfl, rfl, by decide +kernel, rfl, by decide +kernel, by decide +kernel⟩
theorem b__law_asked {P : Program} {w : World} {K : PySem.W.Frag} {mg : Str → Option Value} {base : Heap} {f : Addr} {cdv : Value} {A : Around} {outer : List Env} {s : Shared} {H : Hp} {E : XK} {B : Ba} (e_best_by : Def P w K mg base (L2.CX P w) 3 "best_by" [] 2 S_best_by) (e_way_of : Def P w K mg base (L2.CX P w) 5 "way_of" [] 3 S_way_of) (e_way_right : Def P w K mg base (L2.CX P w) 4 "way_right" [] 4 S_way_right) (e_sorted_by : Def P w K mg base (L2.CX P w) 3 "sorted_by" [] 2 S_sorted_by) (e_weights_by : Def P w K mg base (L2.CX P w) 2 "weights_by" [] 2 S_weights_by) (e_go_by : Def P w K mg base (L2.CX P w) 3 "go_by" [] 3 S_go_by) (e_shares : Def P w K mg base (L2.CX P w) 5 "shares" [] 2 S_shares)
    (hr : Room 5 (A.deeper (envOfC "_law_asked" (defScope s__law_asked) s.heap.objs.size f cdv))) (hgd : A.guards = some []) {EX : Xn → List Vl → Prop} (tk : Takes (cxOf (L2.CX P w) P w K mg base N__law_asked "_law_asked" (defScope s__law_asked) f cdv A outer s H E) (WD K mg B EX)) (hp : PassesOwn (model P w) (cxOf (L2.CX P w) P w K mg base N__law_asked "_law_asked" (defScope s__law_asked) f cdv A outer s H E).A (cxOf (L2.CX P w) P w K mg base N__law_asked "_law_asked" (defScope s__law_asked) f cdv A outer s H E).env (cxOf (L2.CX P w) P w K mg base N__law_asked "_law_asked" (defScope s__law_asked) f cdv A outer s H E).xe) : DSs (cxOf (L2.CX P w) P w K mg base N__law_asked "_law_asked" (defScope s__law_asked) f cdv A outer s H E) B [] (defBody s__law_asked) (t__law_asked EX) :=
  have hu : A.units + 3 + 100 < cLine := un0 hr
  have hN := sc__law_asked.nd
  (dss_cons (ds_if (dc_eq hu (de_var 0) de_int) (dss_one (ds_ret (de_frz (de_callX e_best_by tk len_best_by hr hgd (by decide) rfl (da_cons (de_var 1) (da_cons (de_var 2) da_nil)))))) dss_nil) (dss_cons (ds_if (dc_eq hu (de_var 0) de_int) (dss_one (ds_ret (de_frz (de_callX e_way_of tk len_way_of hr hgd (by decide) rfl (da_cons (de_var 1) (da_cons (de_var 2) (da_cons (de_var 3) da_nil))))))) dss_nil) (dss_cons (ds_if (dc_eq hu (de_var 0) de_int) (dss_one (ds_ret (de_frz (de_callX e_way_right tk len_way_right hr hgd (by decide) rfl (da_cons (de_var 1) (da_cons (de_var 2) (da_cons (de_var 3) (da_cons (de_var 4) da_nil)))))))) dss_nil) (dss_cons (ds_if (dc_eq hu (de_var 0) de_int) (dss_one (ds_ret (de_frz (de_callX e_sorted_by tk len_sorted_by hr hgd (by decide) rfl (da_cons (de_var 1) (da_cons (de_var 2) da_nil)))))) dss_nil) (dss_cons (ds_if (dc_eq hu (de_var 0) de_int) (dss_one (ds_ret (de_frz (de_callX e_weights_by tk len_weights_by hr hgd (by decide) rfl (da_cons (de_var 1) (da_cons (de_var 2) da_nil)))))) dss_nil) (dss_cons (ds_if (dc_eq hu (de_var 0) de_int) (dss_one (ds_ret (de_frz (de_callX e_go_by tk len_go_by hr hgd (by decide) rfl (da_cons (de_var 1) (da_cons (de_var 2) (da_cons (de_var 3) da_nil))))))) dss_nil) (dss_one (ds_ret (de_frz (de_callX e_shares tk len_shares hr hgd (by decide) rfl (da_cons (de_var 1) (da_cons (de_var 4) da_nil))))))))))))

-- _law_refused_as: N = ['door', 'book', 'one', 'other', 'thing', 'caught', 'e', 'kinds', 'odd'], lk = []
theorem sc__law_refused_as : FnScope N__law_refused_as ["door", "book", "one", "other", "thing"] (defScope s__law_refused_as) := ⟨rfl, rfl, rfl, by decide +kernel, rfl, by decide +kernel, by decide +kernel⟩
theorem b__law_refused_as {P : Program} {w : World} {K : PySem.W.Frag} {mg : Str → Option Value} {base : Heap} {f : Addr} {cdv : Value} {A : Around} {outer : List Env} {s : Shared} {H : Hp} {E : XK} {B : Ba} (g_PointError : mg "PointError" = some (.ref (He.ga K "PointError"))) (xl : ExL K mg LX) (e__law_asked : Def P w K mg base (L2.CX P w) 6 "_law_asked" [] 5 S__law_asked) (m_isinstance : mg "isinstance" = none) (m_ValueError : mg "ValueError" = none)
    (hr : Room 6 (A.deeper (envOfC "_law_refused_as" (defScope s__law_refused_as) s.heap.objs.size f cdv))) (hgd : A.guards = some []) : DSs0 (cxOf CX0 P w K mg base N__law_refused_as "_law_refused_as" (defScope s__law_refused_as) f cdv A outer s H E) B [] (defBody s__law_refused_as) t__law_refused_as :=
  have hu : A.units + 3 + 100 < cLine := un0 hr
  have hN := sc__law_refused_as.nd
  dss0_nox (dss0_cons (ds0_of (ds_set 5 hN rfl rfl (by first | exact .inl rfl | exact .inr rfl) de_non)) (dss0_cons (ds_try rfl rfl rfl hN rfl rfl ⟨rfl, by decide, .inl g_PointError⟩ takes_nox rfl (fun x hx => xl.ex x ((by decide +kernel : ∀ x ∈ (["NoMeasures", "NoNumber", "NoOrder", "NoWeights"] : List Str), x ∈ LX) x hx)) (fun EX1 pn1 xe1 tk1 po1 => (dss_one (ds_expr (de_callX e__law_asked tk1 len__law_asked hr hgd (by decide) rfl (da_cons (de_var 0) (da_cons (de_var 1) (da_cons (de_var 2) (da_cons (de_var 3) (da_cons (de_var 4) da_nil))))))))) (fun a1 pn1 => (dss_one (ds_set 5 hN rfl rfl (by first | exact .inl rfl | exact .inr rfl) (de_var 6))))) (dss0_cons (ds0_of (ds_if (dc_isN (de_var 5) de_non) (dss_one (ds_ret de_str)) dss_nil)) (dss0_cons (ds0_of (ds_set 7 hN rfl rfl (by first | exact .inl rfl | exact .inr rfl) (de_lst (da_cons (de_isX (xl.sub (by decide +kernel)) (by decide +kernel) rfl rfl m_isinstance (de_var 5)) (da_cons (de_isX (xl.sub (by decide +kernel)) (by decide +kernel) rfl rfl m_isinstance (de_var 5)) (da_cons (de_isX (xl.sub (by decide +kernel)) (by decide +kernel) rfl rfl m_isinstance (de_var 5)) da_nil)))))) (dss0_cons (ds0_of (ds_expr (de_append (de_var 7) (da_cons (de_isX (xl.sub (by decide +kernel)) (by decide +kernel) rfl rfl m_isinstance (de_var 5)) da_nil)))) (dss0_cons (ds0_of (ds_set 8 hN rfl rfl (by first | exact .inl rfl | exact .inr rfl) (de_isXT (xl.sub (by decide +kernel)) (by decide +kernel) (pa_cl (xl.sub (M := ["NoCorners", "NoDeed", "NoKin", "NoLine", "NoLoss", "NoLot", "NoPoint", "NoRow", "NoTable", "NoText", "NoWindow", "NoWeights", "NoOrder", "NoMeasures", "NoNumber", "TooMany"]) (by decide +kernel)) (by decide +kernel) rfl (pa_cl (xl.sub (M := ["NoCorners", "NoDeed", "NoKin", "NoLine", "NoLoss", "NoLot", "NoPoint", "NoRow", "NoTable", "NoText", "NoWindow", "NoWeights", "NoOrder", "NoMeasures", "NoNumber", "TooMany"]) (by decide +kernel)) (by decide +kernel) rfl (pa_cl (xl.sub (M := ["NoCorners", "NoDeed", "NoKin", "NoLine", "NoLoss", "NoLot", "NoPoint", "NoRow", "NoTable", "NoText", "NoWindow", "NoWeights", "NoOrder", "NoMeasures", "NoNumber", "TooMany"]) (by decide +kernel)) (by decide +kernel) rfl (pa_cl (xl.sub (M := ["NoCorners", "NoDeed", "NoKin", "NoLine", "NoLoss", "NoLot", "NoPoint", "NoRow", "NoTable", "NoText", "NoWindow", "NoWeights", "NoOrder", "NoMeasures", "NoNumber", "TooMany"]) (by decide +kernel)) (by decide +kernel) rfl (pa_cl (xl.sub (M := ["NoCorners", "NoDeed", "NoKin", "NoLine", "NoLoss", "NoLot", "NoPoint", "NoRow", "NoTable", "NoText", "NoWindow", "NoWeights", "NoOrder", "NoMeasures", "NoNumber", "TooMany"]) (by decide +kernel)) (by decide +kernel) rfl (pa_cl (xl.sub (M := ["NoCorners", "NoDeed", "NoKin", "NoLine", "NoLoss", "NoLot", "NoPoint", "NoRow", "NoTable", "NoText", "NoWindow", "NoWeights", "NoOrder", "NoMeasures", "NoNumber", "TooMany"]) (by decide +kernel)) (by decide +kernel) rfl (pa_cl (xl.sub (M := ["NoCorners", "NoDeed", "NoKin", "NoLine", "NoLoss", "NoLot", "NoPoint", "NoRow", "NoTable", "NoText", "NoWindow", "NoWeights", "NoOrder", "NoMeasures", "NoNumber", "TooMany"]) (by decide +kernel)) (by decide +kernel) rfl (pa_cl (xl.sub (M := ["NoCorners", "NoDeed", "NoKin", "NoLine", "NoLoss", "NoLot", "NoPoint", "NoRow", "NoTable", "NoText", "NoWindow", "NoWeights", "NoOrder", "NoMeasures", "NoNumber", "TooMany"]) (by decide +kernel)) (by decide +kernel) rfl (pa_cl (xl.sub (M := ["NoCorners", "NoDeed", "NoKin", "NoLine", "NoLoss", "NoLot", "NoPoint", "NoRow", "NoTable", "NoText", "NoWindow", "NoWeights", "NoOrder", "NoMeasures", "NoNumber", "TooMany"]) (by decide +kernel)) (by decide +kernel) rfl (pa_cl (xl.sub (M := ["NoCorners", "NoDeed", "NoKin", "NoLine", "NoLoss", "NoLot", "NoPoint", "NoRow", "NoTable", "NoText", "NoWindow", "NoWeights", "NoOrder", "NoMeasures", "NoNumber", "TooMany"]) (by decide +kernel)) (by decide +kernel) rfl (pa_cl (xl.sub (M := ["NoCorners", "NoDeed", "NoKin", "NoLine", "NoLoss", "NoLot", "NoPoint", "NoRow", "NoTable", "NoText", "NoWindow", "NoWeights", "NoOrder", "NoMeasures", "NoNumber", "TooMany"]) (by decide +kernel)) (by decide +kernel) rfl pa_cl0))))))))))) rfl m_isinstance (de_var 5) (by rw [sizeLine_eq]; decide)))) (dss0_cons (ds0_of (ds_if (PW.pt (dw_or (dc_val (de_var 8)) (dw_or (dc_val (de_isX (xl.sub (by decide +kernel)) (by decide +kernel) rfl rfl m_isinstance (de_var 5))) (dw_or (dc_not (dc_val (de_isVE (xl.sub (by decide +kernel)) rfl m_ValueError rfl m_isinstance (de_var 5)))) (dw_or1 (dc_ne hu (de_countB (de_var 7)) de_int)))))) (dss_one (ds_ret de_str)) dss_nil)) (dss0_one (ds0_of (ds_ret (de_sub' (de_lst (da_cons de_str (da_cons de_str (da_cons de_str (da_cons de_str da_nil))))) (de_indexB (de_var 7)))))))))))))

-- _law_no_leans: N = ['bag', 'leans', 'which', 'at', 'far', 'one'], lk = [0]
theorem sc__law_no_leans : FnScope N__law_no_leans ["bag", "leans"] (defScope s__law_no_leans) := ⟨rfl, rfl, rfl, by decide +kernel, rfl, by decide +kernel, by decide +kernel⟩
theorem b__law_no_leans {P : Program} {w : World} {K : PySem.W.Frag} {mg : Str → Option Value} {base : Heap} {f : Addr} {cdv : Value} {A : Around} {outer : List Env} {s : Shared} {H : Hp} {E : XK} {B : Ba} (d__law_draw : Def P w K mg base CX0 1 "_law_draw" [0] 2 S__law_draw) (m_len : mg "len" = none) (d__law_wide : Def P w K mg base CX0 2 "_law_wide" [0] 2 S__law_wide)
    (hr : Room 2 (A.deeper (envOfC "_law_no_leans" (defScope s__law_no_leans) s.heap.objs.size f cdv))) (hgd : A.guards = some []) : DSs (cxOf CX0 P w K mg base N__law_no_leans "_law_no_leans" (defScope s__law_no_leans) f cdv A outer s H E) B [0] (defBody s__law_no_leans) t__law_no_leans :=
  have hu : A.units + 3 + 100 < cLine := un0 hr
  have hN := sc__law_no_leans.nd
  dss_nox (dss_cons (ds_set 2 hN rfl rfl (by first | exact .inl rfl | exact .inr rfl) (de_frz (de_call d__law_draw len__law_draw hr hgd (by decide) rfl (da_cons (de_var 0) (da_cons de_int da_nil))))) (dss_cons (ds_set 3 hN rfl rfl (by first | exact .inl rfl | exact .inr rfl) (de_frz (de_call d__law_draw len__law_draw hr hgd (by decide) rfl (da_cons (de_var 0) (da_cons (de_len rfl m_len (da_cons (de_var 1) da_nil)) da_nil))))) (dss_cons (ds_set 4 hN rfl rfl (by first | exact .inl rfl | exact .inr rfl) (de_frz (de_mul (de_call d__law_wide len__law_wide hr hgd (by decide) rfl (da_cons (de_var 0) (da_cons (de_pow de_int de_int) da_nil))) (de_pow de_int de_int)))) (dss_cons (ds_set 5 hN rfl rfl (by first | exact .inl rfl | exact .inr rfl) (de_sub' (de_lst (da_cons (de_neg de_int) (da_cons (de_add (de_pow de_int de_int) de_int) (da_cons (de_sub (de_sub de_int de_int) (de_var 4)) (da_cons (de_add (de_add (de_pow de_int de_int) de_int) (de_var 4)) da_nil))))) (de_mod (de_var 2) de_int))) (dss_cons (ds_if (dc_lt (de_var 2) de_int) (dss_one (ds_ret (de_frz (de_add (de_add (de_slice (de_var 1) do_no (do_at (de_var 3))) (de_tup (da_cons (de_var 5) da_nil))) (de_slice (de_var 1) (do_at (de_add (de_var 3) de_int)) do_no))))) dss_nil) (dss_one (ds_ret (de_sub' (de_lst (da_cons (de_add (de_var 1) (de_tup (da_cons de_int da_nil))) (da_cons (de_frz (de_slice (de_var 1) (do_at de_int) do_no)) (da_cons (de_tup da_nil) (da_cons (de_repA (de_tup (da_cons de_int da_nil)) (de_len rfl m_len (da_cons (de_var 1) da_nil))) da_nil))))) (de_sub (de_var 2) de_int)))))))))

-- _law_no_order: N = ['bag', 'order', 'which', 'at', 'far', 'one'], lk = [0]
theorem sc__law_no_order : FnScope N__law_no_order ["bag", "order"] (defScope s__law_no_order) := ⟨rfl, rfl, rfl, by decide +kernel, rfl, by decide +kernel, by decide +kernel⟩
theorem b__law_no_order {P : Program} {w : World} {K : PySem.W.Frag} {mg : Str → Option Value} {base : Heap} {f : Addr} {cdv : Value} {A : Around} {outer : List Env} {s : Shared} {H : Hp} {E : XK} {B : Ba} (d__law_draw : Def P w K mg base CX0 1 "_law_draw" [0] 2 S__law_draw) (m_len : mg "len" = none) (d__law_wide : Def P w K mg base CX0 2 "_law_wide" [0] 2 S__law_wide)
    (hr : Room 2 (A.deeper (envOfC "_law_no_order" (defScope s__law_no_order) s.heap.objs.size f cdv))) (hgd : A.guards = some []) : DSs (cxOf CX0 P w K mg base N__law_no_order "_law_no_order" (defScope s__law_no_order) f cdv A outer s H E) B [0] (defBody s__law_no_order) t__law_no_order :=
  have hu : A.units + 3 + 100 < cLine := un0 hr
  have hN := sc__law_no_order.nd
  dss_nox (dss_cons (ds_set 2 hN rfl rfl (by first | exact .inl rfl | exact .inr rfl) (de_frz (de_call d__law_draw len__law_draw hr hgd (by decide) rfl (da_cons (de_var 0) (da_cons de_int da_nil))))) (dss_cons (ds_set 3 hN rfl rfl (by first | exact .inl rfl | exact .inr rfl) (de_frz (de_call d__law_draw len__law_draw hr hgd (by decide) rfl (da_cons (de_var 0) (da_cons (de_len rfl m_len (da_cons (de_var 1) da_nil)) da_nil))))) (dss_cons (ds_set 4 hN rfl rfl (by first | exact .inl rfl | exact .inr rfl) (de_frz (de_mul (de_call d__law_wide len__law_wide hr hgd (by decide) rfl (da_cons (de_var 0) (da_cons (de_pow de_int de_int) da_nil))) (de_pow de_int de_int)))) (dss_cons (ds_set 5 hN rfl rfl (by first | exact .inl rfl | exact .inr rfl) (de_sub' (de_lst (da_cons (de_neg de_int) (da_cons (de_len rfl m_len (da_cons (de_var 1) da_nil)) (da_cons (de_add (de_var 4) de_int) (da_cons (de_frz (de_if (dc_gt (de_len rfl m_len (da_cons (de_var 1) da_nil)) de_int) (de_sub' (de_var 1) (de_sub (de_var 3) de_int)) de_int)) da_nil))))) (de_mod (de_var 2) de_int))) (dss_cons (ds_if (dc_lt (de_var 2) de_int) (dss_one (ds_ret (de_frz (de_add (de_add (de_slice (de_var 1) do_no (do_at (de_var 3))) (de_tup (da_cons (de_var 5) da_nil))) (de_slice (de_var 1) (do_at (de_add (de_var 3) de_int)) do_no))))) dss_nil) (dss_one (ds_ret (de_sub' (de_lst (da_cons (de_add (de_var 1) (de_tup (da_cons de_int da_nil))) (da_cons (de_frz (de_slice (de_var 1) (do_at de_int) do_no)) (da_cons (de_tup da_nil) (da_cons (de_add (de_var 1) (de_tup (da_cons (de_len rfl m_len (da_cons (de_var 1) da_nil)) da_nil))) da_nil))))) (de_sub (de_var 2) de_int)))))))))

-- law: N = ['script', 'at', 'cell', 'bag', 'measures', 'bad', 'odd', 'far', 'book', 'leans', 'order', 'thing', 'due', 'good', 'door'], lk = []
theorem sc_law : FnScope N_law ["script"] (defScope s_law) := ⟨rfl, rfl, rfl, by decide +kernel, rfl, by decide +kernel, by decide +kernel⟩
theorem b_law {P : Program} {w : World} {K : PySem.W.Frag} {mg : Str → Option Value} {base : Heap} {f : Addr} {cdv : Value} {A : Around} {outer : List Env} {s : Shared} {H : Hp} {E : XK} {B : Ba} (m_enumerate : mg "enumerate" = none) (m_len : mg "len" = none) (d__law_new_bag : Def P w K mg base CX0 1 "_law_new_bag" [] 2 S__law_new_bag) (d__law_draw : Def P w K mg base CX0 1 "_law_draw" [0] 2 S__law_draw) (d__law_no_leans : Def P w K mg base CX0 3 "_law_no_leans" [0] 2 S__law_no_leans) (d__law_some_leans : Def P w K mg base CX0 4 "_law_some_leans" [0] 2 S__law_some_leans) (d__law_no_order : Def P w K mg base CX0 3 "_law_no_order" [0] 2 S__law_no_order) (m_tuple : mg "tuple" = none) (m_range : mg "range" = none) (d__law_a_book : Def P w K mg base CX0 4 "_law_a_book" [0] 3 S__law_a_book) (d_way_of : Def P w K mg base CX0 5 "way_of" [] 3 (nxS S_way_of)) (d__law_refused_as : Def P w K mg base CX0 7 "_law_refused_as" [] 5 S__law_refused_as) (m_int : mg "int" = none)
    (hr : Room 7 (A.deeper (envOfC "law" (defScope s_law) s.heap.objs.size f cdv))) (hgd : A.guards = some []) : DSs (cxOf CX0 P w K mg base N_law "law" (defScope s_law) f cdv A outer s H E) B [] (defBody s_law) t_law :=
  have hu : A.units + 3 + 100 < cLine := un0 hr
  have hN := sc_law.nd
  dss_nox (dss_cons (ds_for [] .never rfl (di_enum rfl m_enumerate (da_cons (de_frz (de_add (de_slice (de_var 0) do_no (do_at de_int)) (de_lst (da_cons (de_len rfl m_len (da_cons (de_var 0) da_nil)) da_nil)))) da_nil)) (dg_tup rfl (dgs_cons (dg_name 1 hN rfl rfl (by first | exact .inl rfl | exact .inr rfl)) (dgs_cons (dg_name 2 hN rfl rfl (by first | exact .inl rfl | exact .inr rfl)) dgs_nil))) (dss_cons (ds_set 3 hN rfl rfl (by first | exact .inl rfl | exact .inr rfl) (de_call d__law_new_bag len__law_new_bag hr hgd (by decide) rfl (da_cons (de_var 2) (da_cons (de_var 1) da_nil)))) (dss_cons (ds_set 4 hN rfl rfl (by first | exact .inl rfl | exact .inr rfl) (de_frz (de_add de_int (de_call d__law_draw len__law_draw hr hgd (by decide) rfl (da_cons (de_var 3) (da_cons de_int da_nil)))))) (dss_cons (ds_set 5 hN rfl rfl (by first | exact .inl rfl | exact .inr rfl) (de_frz (de_call d__law_no_leans len__law_no_leans hr hgd (by decide) rfl (da_cons (de_var 3) (da_cons (de_frz (de_call d__law_some_leans len__law_some_leans hr hgd (by decide) rfl (da_cons (de_var 3) (da_cons (de_var 4) da_nil)))) da_nil))))) (dss_cons (ds_set 6 hN rfl rfl (by first | exact .inl rfl | exact .inr rfl) (de_frz (de_call d__law_no_order len__law_no_order hr hgd (by decide) rfl (da_cons (de_var 3) (da_cons (de_frz (de_revD (de_tupR rfl rfl m_tuple (dr_1 rfl m_range (de_var 4))) (de_sub de_int (de_mul de_int (de_call d__law_draw len__law_draw hr hgd (by decide) rfl (da_cons (de_var 3) (da_cons de_int da_nil))))))) da_nil))))) (dss_cons (ds_set 7 hN rfl rfl (by first | exact .inl rfl | exact .inr rfl) (de_sub' (de_lst (da_cons de_int (da_cons (de_neg de_int) (da_cons (de_add (de_pow de_int de_int) de_int) (da_cons (de_frz (de_add (de_add (de_pow de_int de_int) de_int) (de_mul (de_pow de_int de_int) (de_call d__law_draw len__law_draw hr hgd (by decide) rfl (da_cons (de_var 3) (da_cons de_int da_nil)))))) da_nil))))) (de_call d__law_draw len__law_draw hr hgd (by decide) rfl (da_cons (de_var 3) (da_cons de_int da_nil))))) (dss_cons (ds_set 8 hN rfl rfl (by first | exact .inl rfl | exact .inr rfl) (de_frz (de_call d__law_a_book len__law_a_book hr hgd (by decide) rfl (da_cons (de_var 3) (da_cons (de_var 4) (da_cons de_int da_nil)))))) (dss_cons (ds_set 9 hN rfl rfl (by first | exact .inl rfl | exact .inr rfl) (de_frz (de_call d__law_some_leans len__law_some_leans hr hgd (by decide) rfl (da_cons (de_var 3) (da_cons (de_var 4) da_nil))))) (dss_cons (ds_set 10 hN rfl rfl (by first | exact .inl rfl | exact .inr rfl) (de_tupR rfl rfl m_tuple (dr_1 rfl m_range (de_var 4)))) (dss_cons (ds_set 11 hN rfl rfl (by first | exact .inl rfl | exact .inr rfl) (de_frz (de_lst (da_cons (de_tup (da_cons (de_tup da_nil) (da_cons (de_tup (da_cons (de_tup da_nil) da_nil)) da_nil))) (da_cons (de_tup (da_cons (de_tup (da_cons (de_tup (da_cons de_int (da_cons de_int da_nil))) da_nil)) (da_cons (de_tup (da_cons (de_tup (da_cons de_int da_nil)) (da_cons (de_tup (da_cons de_int da_nil)) da_nil))) da_nil))) (da_cons (de_tup (da_cons (de_tup (da_cons (de_tup (da_cons de_int (da_cons de_int da_nil))) (da_cons (de_tup (da_cons de_int (da_cons de_int da_nil))) da_nil))) (da_cons (de_tup da_nil) da_nil))) (da_cons (de_frz (de_call d_way_of (fun _ _ _ h => len_way_of _ _ _ h) hr hgd (by decide) rfl (da_cons (de_var 8) (da_cons (de_var 9) (da_cons (de_var 9) da_nil))))) da_nil))))))) (dss_cons (ds_set 11 hN rfl rfl (by first | exact .inl rfl | exact .inr rfl) (de_sub' (de_var 11) (de_call d__law_draw len__law_draw hr hgd (by decide) rfl (da_cons (de_var 3) (da_cons de_int da_nil))))) (dss_cons (ds_if (dc_ne hu (de_lc [] rfl hN (di_range1 rfl m_range (da_cons de_int da_nil)) (own := [("door", 14)]) (blk_ok (by kernel_rfl)) rfl rfl (fun _ _ _ _ _ => (dg_name 14 hN rfl rfl (by first | exact .inl rfl | exact .inr rfl))) (fun _ _ _ _ _ => (dts_one (dc_ne hu (de_call d__law_refused_as len__law_refused_as hr hgd (by decide) rfl (da_cons (de_var 14) (da_cons (de_var 8) (da_cons (de_var 5) (da_cons (de_var 9) (da_cons (de_var 11) da_nil)))))) de_str))) (fun _ _ _ _ _ => (de_var 14))) (de_lst da_nil)) (dss_one (ds_ret de_bl)) dss_nil) (dss_cons (ds_if (dc_ne hu (de_lc [] rfl hN (di_seq (de_tup (da_cons de_int (da_cons de_int da_nil)))) (own := [("door", 14)]) (blk_ok (by kernel_rfl)) rfl rfl (fun _ _ _ _ _ => (dg_name 14 hN rfl rfl (by first | exact .inl rfl | exact .inr rfl))) (fun _ _ _ _ _ => (dts_one (dc_ne hu (de_call d__law_refused_as len__law_refused_as hr hgd (by decide) rfl (da_cons (de_var 14) (da_cons (de_var 8) (da_cons (de_var 9) (da_cons (de_var 5) (da_cons (de_var 11) da_nil)))))) de_str))) (fun _ _ _ _ _ => (de_var 14))) (de_lst da_nil)) (dss_one (ds_ret de_bl)) dss_nil) (dss_cons (ds_if (dc_ne hu (de_lc [] rfl hN (di_seq (de_tup (da_cons de_int (da_cons de_int (da_cons de_int da_nil))))) (own := [("door", 14)]) (blk_ok (by kernel_rfl)) rfl rfl (fun _ _ _ _ _ => (dg_name 14 hN rfl rfl (by first | exact .inl rfl | exact .inr rfl))) (fun _ _ _ _ _ => (dts_one (dc_ne hu (de_call d__law_refused_as len__law_refused_as hr hgd (by decide) rfl (da_cons (de_var 14) (da_cons (de_var 8) (da_cons (de_var 6) (da_cons (de_var 5) (da_cons (de_var 11) da_nil)))))) de_str))) (fun _ _ _ _ _ => (de_var 14))) (de_lst da_nil)) (dss_one (ds_ret de_bl)) dss_nil) (dss_cons (ds_set 12 hN rfl rfl (by first | exact .inl rfl | exact .inr rfl) (de_sub' (de_lst (da_cons de_str (da_cons de_str da_nil))) (de_intF rfl m_int (da_cons (de_ne hu (de_var 4) de_int) da_nil)))) (dss_cons (ds_if (dc_ne hu (de_call d__law_refused_as len__law_refused_as hr hgd (by decide) rfl (da_cons de_int (da_cons (de_var 8) (da_cons (de_var 9) (da_cons (de_var 9) (da_cons (de_var 7) da_nil)))))) (de_var 12)) (dss_one (ds_ret de_bl)) dss_nil) (dss_cons (ds_if (dc_ne hu (de_call d__law_refused_as len__law_refused_as hr hgd (by decide) rfl (da_cons de_int (da_cons (de_var 8) (da_cons (de_var 9) (da_cons (de_var 9) (da_cons de_int da_nil)))))) (de_sub' (de_lst (da_cons de_str (da_cons de_str da_nil))) (de_intF rfl m_int (da_cons (de_ne hu (de_var 4) de_int) da_nil)))) (dss_one (ds_ret de_bl)) dss_nil) (dss_cons (ds_setLc [] 13 (fun _ _ _ h => le_frz h) rfl hN rfl rfl rfl rfl (di_range1 rfl m_range (da_cons de_int da_nil)) (own := [("door", 14)]) (blk_ok (by kernel_rfl)) rfl rfl (fun _ _ _ _ _ => (dg_name 14 hN rfl rfl (by first | exact .inl rfl | exact .inr rfl))) (fun _ _ _ _ _ => dts_nil) (fun _ _ _ _ _ => (de_frz (de_call d__law_refused_as len__law_refused_as hr hgd (by decide) rfl (da_cons (de_var 14) (da_cons (de_var 8) (da_cons (de_var 9) (da_cons (de_var 9) (da_cons (de_var 11) da_nil))))))))) (dss_cons (ds_set 13 hN rfl rfl (by first | exact .inl rfl | exact .inr rfl) (de_frz (de_add (de_var 13) (de_lc [] rfl hN (di_seq (de_tup (da_cons de_int (da_cons de_int (da_cons de_int da_nil))))) (own := [("door", 14)]) (blk_ok (by kernel_rfl)) rfl rfl (fun _ _ _ _ _ => (dg_name 14 hN rfl rfl (by first | exact .inl rfl | exact .inr rfl))) (fun _ _ _ _ _ => dts_nil) (fun _ _ _ _ _ => (de_frz (de_call d__law_refused_as len__law_refused_as hr hgd (by decide) rfl (da_cons (de_var 14) (da_cons (de_var 8) (da_cons (de_var 10) (da_cons (de_var 5) (da_cons (de_var 11) da_nil)))))))))))) (dss_one (ds_if (dc_ne hu (de_var 13) (de_repA (de_lst (da_cons de_str da_nil)) de_int)) (dss_one (ds_ret de_bl)) dss_nil))))))))))))))))))))) (dss_one (ds_ret de_bl)))

/-! ### each def keeps its promise -/
theorem ok_common_of {P : Program} {w : World} {K : PySem.W.Frag} {mg : Str → Option Value} {base : Heap} {f : Addr} {fd : FuncData} (F : FunD K "common_of" "common_of" (defArgs s_common_of) (defBody s_common_of) (defScope s_common_of) [] [] f fd) (hm : mg "common_of" = some (.ref f))  : Def P w K mg base CX0 1 "common_of" [] 2 S_common_of :=
  ⟨⟨f, fd, ["one", "other"], hm, def_run F sc_common_of rfl (by decide) t_common_of (fun cdv A outer s H E B hr hgd => b_common_of  hr hgd) r_common_of, F.bindsN fun _ _ _ _ _ _ us hl => match us, hl with | [_, _], _ => rfl, F.kp⟩⟩
theorem ok_lowest {P : Program} {w : World} {K : PySem.W.Frag} {mg : Str → Option Value} {base : Heap} {f : Addr} {fd : FuncData} (F : FunD K "lowest" "lowest" (defArgs s_lowest) (defBody s_lowest) (defScope s_lowest) [] [] f fd) (hm : mg "lowest" = some (.ref f)) (d_common_of : Def P w K mg base CX0 1 "common_of" [] 2 S_common_of) (m_abs : mg "abs" = none) : Def P w K mg base CX0 2 "lowest" [] 2 S_lowest :=
  ⟨⟨f, fd, ["a", "b"], hm, def_run F sc_lowest rfl (by decide) t_lowest (fun cdv A outer s H E B hr hgd => b_lowest d_common_of m_abs hr hgd) r_lowest, F.bindsN fun _ _ _ _ _ _ us hl => match us, hl with | [_, _], _ => rfl, F.kp⟩⟩
theorem ok_is_leans {P : Program} {w : World} {K : PySem.W.Frag} {mg : Str → Option Value} {base : Heap} {f : Addr} {fd : FuncData} (F : FunD K "is_leans" "is_leans" (defArgs s_is_leans) (defBody s_is_leans) (defScope s_is_leans) [] [] f fd) (hm : mg "is_leans" = some (.ref f)) (m_len : mg "len" = none) (m_all : mg "all" = none) (c_MOST_LEAN : ∃ t, mg "MOST_LEAN" = some (.int 1000000000 t)) (m_any : mg "any" = none) : Def P w K mg base CX0 1 "is_leans" [] 2 S_is_leans :=
  ⟨⟨f, fd, ["book", "thing"], hm, def_run F sc_is_leans rfl (by decide) t_is_leans (fun cdv A outer s H E B hr hgd => b_is_leans m_len m_all c_MOST_LEAN m_any hr hgd) r_is_leans, F.bindsN fun _ _ _ _ _ _ us hl => match us, hl with | [_, _], _ => rfl, F.kp⟩⟩
theorem ok_need_leans {P : Program} {w : World} {K : PySem.W.Frag} {mg : Str → Option Value} {base : Heap} {f : Addr} {fd : FuncData} (F : FunD K "need_leans" "need_leans" (defArgs s_need_leans) (defBody s_need_leans) (defScope s_need_leans) [] [] f fd) (hm : mg "need_leans" = some (.ref f)) (d_is_leans : Def P w K mg base CX0 1 "is_leans" [] 2 S_is_leans) (x_NoWeights : ExcG K mg "NoWeights") : Def P w K mg base (L2.CX P w) 2 "need_leans" [] 2 S_need_leans :=
  ⟨⟨f, fd, ["book", "thing"], hm, def_runX F sc_need_leans rfl (by decide) t_need_leans (fun cdv A outer s H E B EX hr hgd tk hp => b_need_leans d_is_leans x_NoWeights hr hgd tk hp) r_need_leans, F.bindsN fun _ _ _ _ _ _ us hl => match us, hl with | [_, _], _ => rfl, F.kp⟩⟩
theorem ok_sum_by {P : Program} {w : World} {K : PySem.W.Frag} {mg : Str → Option Value} {base : Heap} {f : Addr} {fd : FuncData} (F : FunD K "sum_by" "sum_by" (defArgs s_sum_by) (defBody s_sum_by) (defScope s_sum_by) [] [] f fd) (hm : mg "sum_by" = some (.ref f)) (m_sum : mg "sum" = none) (m_zip : mg "zip" = none) : Def P w K mg base CX0 1 "sum_by" [] 2 S_sum_by :=
  ⟨⟨f, fd, ["point", "leans"], hm, def_run F sc_sum_by rfl (by decide) t_sum_by (fun cdv A outer s H E B hr hgd => b_sum_by m_sum m_zip hr hgd) r_sum_by, F.bindsN fun _ _ _ _ _ _ us hl => match us, hl with | [_, _], _ => rfl, F.kp⟩⟩
theorem ok_sums_by {P : Program} {w : World} {K : PySem.W.Frag} {mg : Str → Option Value} {base : Heap} {f : Addr} {fd : FuncData} (F : FunD K "sums_by" "sums_by" (defArgs s_sums_by) (defBody s_sums_by) (defScope s_sums_by) [] [] f fd) (hm : mg "sums_by" = some (.ref f)) (d_sum_by : Def P w K mg base CX0 1 "sum_by" [] 2 S_sum_by) : Def P w K mg base CX0 2 "sums_by" [] 2 S_sums_by :=
  ⟨⟨f, fd, ["book", "leans"], hm, def_run F sc_sums_by rfl (by decide) t_sums_by (fun cdv A outer s H E B hr hgd => b_sums_by d_sum_by hr hgd) r_sums_by, F.bindsN fun _ _ _ _ _ _ us hl => match us, hl with | [_, _], _ => rfl, F.kp⟩⟩
theorem ok_greatest_in {P : Program} {w : World} {K : PySem.W.Frag} {mg : Str → Option Value} {base : Heap} {f : Addr} {fd : FuncData} (F : FunD K "greatest_in" "greatest_in" (defArgs s_greatest_in) (defBody s_greatest_in) (defScope s_greatest_in) [] [] f fd) (hm : mg "greatest_in" = some (.ref f)) (m_max : mg "max" = none) (m_tuple : mg "tuple" = none) (m_enumerate : mg "enumerate" = none) : Def P w K mg base CX0 1 "greatest_in" [] 1 S_greatest_in :=
  ⟨⟨f, fd, ["worths"], hm, def_run F sc_greatest_in rfl (by decide) t_greatest_in (fun cdv A outer s H E B hr hgd => b_greatest_in m_max m_tuple m_enumerate hr hgd) r_greatest_in, F.bindsN fun _ _ _ _ _ _ us hl => match us, hl with | [_], _ => rfl, F.kp⟩⟩
theorem ok_best_by {P : Program} {w : World} {K : PySem.W.Frag} {mg : Str → Option Value} {base : Heap} {f : Addr} {fd : FuncData} (F : FunD K "best_by" "best_by" (defArgs s_best_by) (defBody s_best_by) (defScope s_best_by) [] [] f fd) (hm : mg "best_by" = some (.ref f)) (e_need_leans : Def P w K mg base (L2.CX P w) 2 "need_leans" [] 2 S_need_leans) (d_greatest_in : Def P w K mg base CX0 1 "greatest_in" [] 1 S_greatest_in) (d_sums_by : Def P w K mg base CX0 2 "sums_by" [] 2 S_sums_by) : Def P w K mg base (L2.CX P w) 3 "best_by" [] 2 S_best_by :=
  ⟨⟨f, fd, ["book", "leans"], hm, def_runX F sc_best_by rfl (by decide) t_best_by (fun cdv A outer s H E B EX hr hgd tk hp => b_best_by e_need_leans d_greatest_in d_sums_by hr hgd tk hp) r_best_by, F.bindsN fun _ _ _ _ _ _ us hl => match us, hl with | [_, _], _ => rfl, F.kp⟩⟩
theorem ok_worths_at {P : Program} {w : World} {K : PySem.W.Frag} {mg : Str → Option Value} {base : Heap} {f : Addr} {fd : FuncData} (F : FunD K "worths_at" "worths_at" (defArgs s_worths_at) (defBody s_worths_at) (defScope s_worths_at) [] [] f fd) (hm : mg "worths_at" = some (.ref f))  : Def P w K mg base CX0 1 "worths_at" [] 2 S_worths_at :=
  ⟨⟨f, fd, ["lines", "at"], hm, def_run F sc_worths_at rfl (by decide) t_worths_at (fun cdv A outer s H E B hr hgd => b_worths_at  hr hgd) r_worths_at, F.bindsN fun _ _ _ _ _ _ us hl => match us, hl with | [_, _], _ => rfl, F.kp⟩⟩
theorem ok_is_ahead {P : Program} {w : World} {K : PySem.W.Frag} {mg : Str → Option Value} {base : Heap} {f : Addr} {fd : FuncData} (F : FunD K "is_ahead" "is_ahead" (defArgs s_is_ahead) (defBody s_is_ahead) (defScope s_is_ahead) [] [] f fd) (hm : mg "is_ahead" = some (.ref f))  : Def P w K mg base CX0 1 "is_ahead" [] 2 S_is_ahead :=
  ⟨⟨f, fd, ["one", "other"], hm, def_run F sc_is_ahead rfl (by decide) t_is_ahead (fun cdv A outer s H E B hr hgd => b_is_ahead  hr hgd) r_is_ahead, F.bindsN fun _ _ _ _ _ _ us hl => match us, hl with | [_, _], _ => rfl, F.kp⟩⟩
theorem ok_break_behind {P : Program} {w : World} {K : PySem.W.Frag} {mg : Str → Option Value} {base : Heap} {f : Addr} {fd : FuncData} (F : FunD K "break_behind" "break_behind" (defArgs s_break_behind) (defBody s_break_behind) (defScope s_break_behind) [] [] f fd) (hm : mg "break_behind" = some (.ref f)) (d_lowest : Def P w K mg base CX0 2 "lowest" [] 2 S_lowest) (d_is_ahead : Def P w K mg base CX0 1 "is_ahead" [] 2 S_is_ahead) : Def P w K mg base CX0 3 "break_behind" [] 2 S_break_behind :=
  ⟨⟨f, fd, ["lines", "here"], hm, def_run F sc_break_behind rfl (by decide) t_break_behind (fun cdv A outer s H E B hr hgd => b_break_behind d_lowest d_is_ahead hr hgd) r_break_behind, F.bindsN fun _ _ _ _ _ _ us hl => match us, hl with | [_, _], _ => rfl, F.kp⟩⟩
theorem ok_steepest_at {P : Program} {w : World} {K : PySem.W.Frag} {mg : Str → Option Value} {base : Heap} {f : Addr} {fd : FuncData} (F : FunD K "steepest_at" "steepest_at" (defArgs s_steepest_at) (defBody s_steepest_at) (defScope s_steepest_at) [] [] f fd) (hm : mg "steepest_at" = some (.ref f)) (m_zip : mg "zip" = none) (d_worths_at : Def P w K mg base CX0 1 "worths_at" [] 2 S_worths_at) (m_max : mg "max" = none) : Def P w K mg base CX0 2 "steepest_at" [] 2 S_steepest_at :=
  ⟨⟨f, fd, ["lines", "at"], hm, def_run F sc_steepest_at rfl (by decide) t_steepest_at (fun cdv A outer s H E B hr hgd => b_steepest_at m_zip d_worths_at m_max hr hgd) r_steepest_at, F.bindsN fun _ _ _ _ _ _ us hl => match us, hl with | [_, _], _ => rfl, F.kp⟩⟩
theorem ok_breaks_of {P : Program} {w : World} {K : PySem.W.Frag} {mg : Str → Option Value} {base : Heap} {f : Addr} {fd : FuncData} (F : FunD K "breaks_of" "breaks_of" (defArgs s_breaks_of) (defBody s_breaks_of) (defScope s_breaks_of) [] [] f fd) (hm : mg "breaks_of" = some (.ref f)) (m_max : mg "max" = none) (t_BEGIN : TpI K mg "BEGIN" [0, 1]) (m_range : mg "range" = none) (m_len : mg "len" = none) (d_break_behind : Def P w K mg base CX0 3 "break_behind" [] 2 S_break_behind) (d_steepest_at : Def P w K mg base CX0 2 "steepest_at" [] 2 S_steepest_at) (m_tuple : mg "tuple" = none) : Def P w K mg base CX0 4 "breaks_of" [] 1 S_breaks_of :=
  ⟨⟨f, fd, ["lines"], hm, def_run F sc_breaks_of rfl (by decide) t_breaks_of (fun cdv A outer s H E B hr hgd => b_breaks_of m_max t_BEGIN m_range m_len d_break_behind d_steepest_at m_tuple hr hgd) r_breaks_of, F.bindsN fun _ _ _ _ _ _ us hl => match us, hl with | [_], _ => rfl, F.kp⟩⟩
theorem ok_bests_between {P : Program} {w : World} {K : PySem.W.Frag} {mg : Str → Option Value} {base : Heap} {f : Addr} {fd : FuncData} (F : FunD K "bests_between" "bests_between" (defArgs s_bests_between) (defBody s_bests_between) (defScope s_bests_between) [] [] f fd) (hm : mg "bests_between" = some (.ref f)) (t_BEGIN : TpI K mg "BEGIN" [0, 1]) (t_END : TpI K mg "END" [1, 1]) (d_greatest_in : Def P w K mg base CX0 1 "greatest_in" [] 1 S_greatest_in) (d_worths_at : Def P w K mg base CX0 1 "worths_at" [] 2 S_worths_at) (m_tuple : mg "tuple" = none) (m_zip : mg "zip" = none) : Def P w K mg base CX0 2 "bests_between" [] 2 S_bests_between :=
  ⟨⟨f, fd, ["lines", "breaks"], hm, def_run F sc_bests_between rfl (by decide) t_bests_between (fun cdv A outer s H E B hr hgd => b_bests_between t_BEGIN t_END d_greatest_in d_worths_at m_tuple m_zip hr hgd) r_bests_between, F.bindsN fun _ _ _ _ _ _ us hl => match us, hl with | [_, _], _ => rfl, F.kp⟩⟩
theorem ok_lines_of {P : Program} {w : World} {K : PySem.W.Frag} {mg : Str → Option Value} {base : Heap} {f : Addr} {fd : FuncData} (F : FunD K "lines_of" "lines_of" (defArgs s_lines_of) (defBody s_lines_of) (defScope s_lines_of) [] [] f fd) (hm : mg "lines_of" = some (.ref f)) (e_need_leans : Def P w K mg base (L2.CX P w) 2 "need_leans" [] 2 S_need_leans) (m_list : mg "list" = none) (m_zip : mg "zip" = none) (d_sums_by : Def P w K mg base CX0 2 "sums_by" [] 2 S_sums_by) : Def P w K mg base (L2.CX P w) 3 "lines_of" [] 3 S_lines_of :=
  ⟨⟨f, fd, ["book", "one", "other"], hm, def_runX F sc_lines_of rfl (by decide) t_lines_of (fun cdv A outer s H E B EX hr hgd tk hp => b_lines_of e_need_leans m_list m_zip d_sums_by hr hgd tk hp) r_lines_of, F.bindsN fun _ _ _ _ _ _ us hl => match us, hl with | [_, _, _], _ => rfl, F.kp⟩⟩
theorem ok_way_of {P : Program} {w : World} {K : PySem.W.Frag} {mg : Str → Option Value} {base : Heap} {f : Addr} {fd : FuncData} (F : FunD K "way_of" "way_of" (defArgs s_way_of) (defBody s_way_of) (defScope s_way_of) [] [] f fd) (hm : mg "way_of" = some (.ref f)) (e_lines_of : Def P w K mg base (L2.CX P w) 3 "lines_of" [] 3 S_lines_of) (d_breaks_of : Def P w K mg base CX0 4 "breaks_of" [] 1 S_breaks_of) (d_bests_between : Def P w K mg base CX0 2 "bests_between" [] 2 S_bests_between) : Def P w K mg base (L2.CX P w) 5 "way_of" [] 3 S_way_of :=
  ⟨⟨f, fd, ["book", "one", "other"], hm, def_runX F sc_way_of rfl (by decide) t_way_of (fun cdv A outer s H E B EX hr hgd tk hp => b_way_of e_lines_of d_breaks_of d_bests_between hr hgd tk hp) r_way_of, F.bindsN fun _ _ _ _ _ _ us hl => match us, hl with | [_, _, _], _ => rfl, F.kp⟩⟩
theorem ok_is_inner {P : Program} {w : World} {K : PySem.W.Frag} {mg : Str → Option Value} {base : Heap} {f : Addr} {fd : FuncData} (F : FunD K "is_inner" "is_inner" (defArgs s_is_inner) (defBody s_is_inner) (defScope s_is_inner) [] [] f fd) (hm : mg "is_inner" = some (.ref f)) (d_lowest : Def P w K mg base CX0 2 "lowest" [] 2 S_lowest) : Def P w K mg base CX0 3 "is_inner" [] 1 S_is_inner :=
  ⟨⟨f, fd, ["thing"], hm, def_run F sc_is_inner rfl (by decide) t_is_inner (fun cdv A outer s H E B hr hgd => b_is_inner d_lowest hr hgd) r_is_inner, F.bindsN fun _ _ _ _ _ _ us hl => match us, hl with | [_], _ => rfl, F.kp⟩⟩
theorem ok_way_right {P : Program} {w : World} {K : PySem.W.Frag} {mg : Str → Option Value} {base : Heap} {f : Addr} {fd : FuncData} (F : FunD K "way_right" "way_right" (defArgs s_way_right) (defBody s_way_right) (defScope s_way_right) [] [] f fd) (hm : mg "way_right" = some (.ref f)) (e_lines_of : Def P w K mg base (L2.CX P w) 3 "lines_of" [] 3 S_lines_of) (m_all : mg "all" = none) (d_is_inner : Def P w K mg base CX0 3 "is_inner" [] 1 S_is_inner) (m_zip : mg "zip" = none) (d_is_ahead : Def P w K mg base CX0 1 "is_ahead" [] 2 S_is_ahead) (m_len : mg "len" = none) (d_bests_between : Def P w K mg base CX0 2 "bests_between" [] 2 S_bests_between) : Def P w K mg base (L2.CX P w) 4 "way_right" [] 4 S_way_right :=
  ⟨⟨f, fd, ["book", "one", "other", "thing"], hm, def_runX F sc_way_right rfl (by decide) t_way_right (fun cdv A outer s H E B EX hr hgd tk hp => b_way_right e_lines_of m_all d_is_inner m_zip d_is_ahead m_len d_bests_between hr hgd tk hp) r_way_right, F.bindsN fun _ _ _ _ _ _ us hl => match us, hl with | [_, _, _, _], _ => rfl, F.kp⟩⟩
theorem ok_whole_at {P : Program} {w : World} {K : PySem.W.Frag} {mg : Str → Option Value} {base : Heap} {f : Addr} {fd : FuncData} (F : FunD K "whole_at" "whole_at" (defArgs s_whole_at) (defBody s_whole_at) (defScope s_whole_at) [] [] f fd) (hm : mg "whole_at" = some (.ref f))  : Def P w K mg base CX0 1 "whole_at" [] 2 S_whole_at :=
  ⟨⟨f, fd, ["many", "at"], hm, def_run F sc_whole_at rfl (by decide) t_whole_at (fun cdv A outer s H E B hr hgd => b_whole_at  hr hgd) r_whole_at, F.bindsN fun _ _ _ _ _ _ us hl => match us, hl with | [_, _], _ => rfl, F.kp⟩⟩
theorem ok_many_amid {P : Program} {w : World} {K : PySem.W.Frag} {mg : Str → Option Value} {base : Heap} {f : Addr} {fd : FuncData} (F : FunD K "many_amid" "many_amid" (defArgs s_many_amid) (defBody s_many_amid) (defScope s_many_amid) [] [] f fd) (hm : mg "many_amid" = some (.ref f))  : Def P w K mg base CX0 1 "many_amid" [] 3 S_many_amid :=
  ⟨⟨f, fd, ["many", "ahead", "behind"], hm, def_run F sc_many_amid rfl (by decide) t_many_amid (fun cdv A outer s H E B hr hgd => b_many_amid  hr hgd) r_many_amid, F.bindsN fun _ _ _ _ _ _ us hl => match us, hl with | [_, _, _], _ => rfl, F.kp⟩⟩
theorem ok_shares {P : Program} {w : World} {K : PySem.W.Frag} {mg : Str → Option Value} {base : Heap} {f : Addr} {fd : FuncData} (F : FunD K "shares" "shares" (defArgs s_shares) (defBody s_shares) (defScope s_shares) [] [] f fd) (hm : mg "shares" = some (.ref f)) (x_NoMeasures : ExcG K mg "NoMeasures") (c_MOST_SHARES : ∃ t, mg "MOST_SHARES" = some (.int 1000000000000 t)) (x_NoNumber : ExcG K mg "NoNumber") (m_len : mg "len" = none) (d_breaks_of : Def P w K mg base CX0 4 "breaks_of" [] 1 S_breaks_of) (t_BEGIN : TpI K mg "BEGIN" [0, 1]) (t_END : TpI K mg "END" [1, 1]) (d_whole_at : Def P w K mg base CX0 1 "whole_at" [] 2 S_whole_at) (d_greatest_in : Def P w K mg base CX0 1 "greatest_in" [] 1 S_greatest_in) (d_worths_at : Def P w K mg base CX0 1 "worths_at" [] 2 S_worths_at) (m_zip : mg "zip" = none) (d_bests_between : Def P w K mg base CX0 2 "bests_between" [] 2 S_bests_between) (d_many_amid : Def P w K mg base CX0 1 "many_amid" [] 3 S_many_amid) (m_tuple : mg "tuple" = none) : Def P w K mg base (L2.CX P w) 5 "shares" [] 2 S_shares :=
  ⟨⟨f, fd, ["book", "many"], hm, def_runX F sc_shares rfl (by decide) t_shares (fun cdv A outer s H E B EX hr hgd tk hp => b_shares x_NoMeasures c_MOST_SHARES x_NoNumber m_len d_breaks_of t_BEGIN t_END d_whole_at d_greatest_in d_worths_at m_zip d_bests_between d_many_amid m_tuple hr hgd tk hp) r_shares, F.bindsN fun _ _ _ _ _ _ us hl => match us, hl with | [_, _], _ => rfl, F.kp⟩⟩
theorem ok_need_order {P : Program} {w : World} {K : PySem.W.Frag} {mg : Str → Option Value} {base : Heap} {f : Addr} {fd : FuncData} (F : FunD K "need_order" "need_order" (defArgs s_need_order) (defBody s_need_order) (defScope s_need_order) [] [] f fd) (hm : mg "need_order" = some (.ref f)) (m_sorted : mg "sorted" = none) (m_list : mg "list" = none) (m_range : mg "range" = none) (x_NoOrder : ExcG K mg "NoOrder") : Def P w K mg base (L2.CX P w) 1 "need_order" [] 2 S_need_order :=
  ⟨⟨f, fd, ["book", "order"], hm, def_runX F sc_need_order rfl (by decide) t_need_order (fun cdv A outer s H E B EX hr hgd tk hp => b_need_order m_sorted m_list m_range x_NoOrder hr hgd tk hp) r_need_order, F.bindsN fun _ _ _ _ _ _ us hl => match us, hl with | [_, _], _ => rfl, F.kp⟩⟩
theorem ok_turned {P : Program} {w : World} {K : PySem.W.Frag} {mg : Str → Option Value} {base : Heap} {f : Addr} {fd : FuncData} (F : FunD K "turned" "turned" (defArgs s_turned) (defBody s_turned) (defScope s_turned) [] [] f fd) (hm : mg "turned" = some (.ref f)) (m_tuple : mg "tuple" = none) : Def P w K mg base CX0 1 "turned" [] 2 S_turned :=
  ⟨⟨f, fd, ["point", "order"], hm, def_run F sc_turned rfl (by decide) t_turned (fun cdv A outer s H E B hr hgd => b_turned m_tuple hr hgd) r_turned, F.bindsN fun _ _ _ _ _ _ us hl => match us, hl with | [_, _], _ => rfl, F.kp⟩⟩
theorem ok_in_order {P : Program} {w : World} {K : PySem.W.Frag} {mg : Str → Option Value} {base : Heap} {f : Addr} {fd : FuncData} (F : FunD K "in_order" "in_order" (defArgs s_in_order) (defBody s_in_order) (defScope s_in_order) [] [] f fd) (hm : mg "in_order" = some (.ref f)) (m_sorted : mg "sorted" = none) (m_enumerate : mg "enumerate" = none) (d_turned : Def P w K mg base CX0 1 "turned" [] 2 S_turned) : Def P w K mg base CX0 2 "in_order" [] 2 S_in_order :=
  ⟨⟨f, fd, ["book", "order"], hm, def_run F sc_in_order rfl (by decide) t_in_order (fun cdv A outer s H E B hr hgd => b_in_order m_sorted m_enumerate d_turned hr hgd) r_in_order, F.bindsN fun _ _ _ _ _ _ us hl => match us, hl with | [_, _], _ => rfl, F.kp⟩⟩
theorem ok_sorted_by {P : Program} {w : World} {K : PySem.W.Frag} {mg : Str → Option Value} {base : Heap} {f : Addr} {fd : FuncData} (F : FunD K "sorted_by" "sorted_by" (defArgs s_sorted_by) (defBody s_sorted_by) (defScope s_sorted_by) [] [] f fd) (hm : mg "sorted_by" = some (.ref f)) (e_need_order : Def P w K mg base (L2.CX P w) 1 "need_order" [] 2 S_need_order) (m_tuple : mg "tuple" = none) (d_in_order : Def P w K mg base CX0 2 "in_order" [] 2 S_in_order) : Def P w K mg base (L2.CX P w) 3 "sorted_by" [] 2 S_sorted_by :=
  ⟨⟨f, fd, ["book", "order"], hm, def_runX F sc_sorted_by rfl (by decide) t_sorted_by (fun cdv A outer s H E B EX hr hgd tk hp => b_sorted_by e_need_order m_tuple d_in_order hr hgd tk hp) r_sorted_by, F.bindsN fun _ _ _ _ _ _ us hl => match us, hl with | [_, _], _ => rfl, F.kp⟩⟩
theorem ok_spread_in {P : Program} {w : World} {K : PySem.W.Frag} {mg : Str → Option Value} {base : Heap} {f : Addr} {fd : FuncData} (F : FunD K "spread_in" "spread_in" (defArgs s_spread_in) (defBody s_spread_in) (defScope s_spread_in) [] [] f fd) (hm : mg "spread_in" = some (.ref f)) (m_max : mg "max" = none) (m_min : mg "min" = none) : Def P w K mg base CX0 1 "spread_in" [] 2 S_spread_in :=
  ⟨⟨f, fd, ["book", "measure"], hm, def_run F sc_spread_in rfl (by decide) t_spread_in (fun cdv A outer s H E B hr hgd => b_spread_in m_max m_min hr hgd) r_spread_in, F.bindsN fun _ _ _ _ _ _ us hl => match us, hl with | [_, _], _ => rfl, F.kp⟩⟩
theorem ok_weights_by {P : Program} {w : World} {K : PySem.W.Frag} {mg : Str → Option Value} {base : Heap} {f : Addr} {fd : FuncData} (F : FunD K "weights_by" "weights_by" (defArgs s_weights_by) (defBody s_weights_by) (defScope s_weights_by) [] [] f fd) (hm : mg "weights_by" = some (.ref f)) (e_need_order : Def P w K mg base (L2.CX P w) 1 "need_order" [] 2 S_need_order) (m_reversed : mg "reversed" = none) (d_spread_in : Def P w K mg base CX0 1 "spread_in" [] 2 S_spread_in) (m_tuple : mg "tuple" = none) : Def P w K mg base (L2.CX P w) 2 "weights_by" [] 2 S_weights_by :=
  ⟨⟨f, fd, ["book", "order"], hm, def_runX F sc_weights_by rfl (by decide) t_weights_by (fun cdv A outer s H E B EX hr hgd tk hp => b_weights_by e_need_order m_reversed d_spread_in m_tuple hr hgd tk hp) r_weights_by, F.bindsN fun _ _ _ _ _ _ us hl => match us, hl with | [_, _], _ => rfl, F.kp⟩⟩
theorem ok_is_greater_by {P : Program} {w : World} {K : PySem.W.Frag} {mg : Str → Option Value} {base : Heap} {f : Addr} {fd : FuncData} (F : FunD K "is_greater_by" "is_greater_by" (defArgs s_is_greater_by) (defBody s_is_greater_by) (defScope s_is_greater_by) [] [] f fd) (hm : mg "is_greater_by" = some (.ref f)) (d_sum_by : Def P w K mg base CX0 1 "sum_by" [] 2 S_sum_by) : Def P w K mg base CX0 2 "is_greater_by" [] 3 S_is_greater_by :=
  ⟨⟨f, fd, ["weights", "one", "other"], hm, def_run F sc_is_greater_by rfl (by decide) t_is_greater_by (fun cdv A outer s H E B hr hgd => b_is_greater_by d_sum_by hr hgd) r_is_greater_by, F.bindsN fun _ _ _ _ _ _ us hl => match us, hl with | [_, _, _], _ => rfl, F.kp⟩⟩
theorem ok_go_by {P : Program} {w : World} {K : PySem.W.Frag} {mg : Str → Option Value} {base : Heap} {f : Addr} {fd : FuncData} (F : FunD K "go_by" "go_by" (defArgs s_go_by) (defBody s_go_by) (defScope s_go_by) [] [] f fd) (hm : mg "go_by" = some (.ref f)) (e_need_order : Def P w K mg base (L2.CX P w) 1 "need_order" [] 2 S_need_order) (m_len : mg "len" = none) (m_all : mg "all" = none) (d_in_order : Def P w K mg base CX0 2 "in_order" [] 2 S_in_order) (m_zip : mg "zip" = none) (d_is_greater_by : Def P w K mg base CX0 2 "is_greater_by" [] 3 S_is_greater_by) : Def P w K mg base (L2.CX P w) 3 "go_by" [] 3 S_go_by :=
  ⟨⟨f, fd, ["book", "order", "thing"], hm, def_runX F sc_go_by rfl (by decide) t_go_by (fun cdv A outer s H E B EX hr hgd tk hp => b_go_by e_need_order m_len m_all d_in_order m_zip d_is_greater_by hr hgd tk hp) r_go_by, F.bindsN fun _ _ _ _ _ _ us hl => match us, hl with | [_, _, _], _ => rfl, F.kp⟩⟩
theorem ok__law_new_bag {P : Program} {w : World} {K : PySem.W.Frag} {mg : Str → Option Value} {base : Heap} {f : Addr} {fd : FuncData} (F : FunD K "_law_new_bag" "_law_new_bag" (defArgs s__law_new_bag) (defBody s__law_new_bag) (defScope s__law_new_bag) [] [] f fd) (hm : mg "_law_new_bag" = some (.ref f))  : Def P w K mg base CX0 1 "_law_new_bag" [] 2 S__law_new_bag :=
  ⟨⟨f, fd, ["cell", "at"], hm, def_run F sc__law_new_bag rfl (by decide) t__law_new_bag (fun cdv A outer s H E B hr hgd => b__law_new_bag  hr hgd) r__law_new_bag, F.bindsN fun _ _ _ _ _ _ us hl => match us, hl with | [_, _], _ => rfl, F.kp⟩⟩
theorem ok__law_draw {P : Program} {w : World} {K : PySem.W.Frag} {mg : Str → Option Value} {base : Heap} {f : Addr} {fd : FuncData} (F : FunD K "_law_draw" "_law_draw" (defArgs s__law_draw) (defBody s__law_draw) (defScope s__law_draw) [] [] f fd) (hm : mg "_law_draw" = some (.ref f))  : Def P w K mg base CX0 1 "_law_draw" [0] 2 S__law_draw :=
  ⟨⟨f, fd, ["bag", "many"], hm, def_run F sc__law_draw rfl (by decide) t__law_draw (fun cdv A outer s H E B hr hgd => b__law_draw  hr hgd) r__law_draw, F.bindsN fun _ _ _ _ _ _ us hl => match us, hl with | [_, _], _ => rfl, F.kp⟩⟩
theorem ok__law_wide {P : Program} {w : World} {K : PySem.W.Frag} {mg : Str → Option Value} {base : Heap} {f : Addr} {fd : FuncData} (F : FunD K "_law_wide" "_law_wide" (defArgs s__law_wide) (defBody s__law_wide) (defScope s__law_wide) [] [] f fd) (hm : mg "_law_wide" = some (.ref f)) (d__law_draw : Def P w K mg base CX0 1 "_law_draw" [0] 2 S__law_draw) : Def P w K mg base CX0 2 "_law_wide" [0] 2 S__law_wide :=
  ⟨⟨f, fd, ["bag", "many"], hm, def_run F sc__law_wide rfl (by decide) t__law_wide (fun cdv A outer s H E B hr hgd => b__law_wide d__law_draw hr hgd) r__law_wide, F.bindsN fun _ _ _ _ _ _ us hl => match us, hl with | [_, _], _ => rfl, F.kp⟩⟩
theorem ok__law_a_number {P : Program} {w : World} {K : PySem.W.Frag} {mg : Str → Option Value} {base : Heap} {f : Addr} {fd : FuncData} (F : FunD K "_law_a_number" "_law_a_number" (defArgs s__law_a_number) (defBody s__law_a_number) (defScope s__law_a_number) [] [] f fd) (hm : mg "_law_a_number" = some (.ref f)) (d__law_draw : Def P w K mg base CX0 1 "_law_draw" [0] 2 S__law_draw) (d__law_wide : Def P w K mg base CX0 2 "_law_wide" [0] 2 S__law_wide) : Def P w K mg base CX0 3 "_law_a_number" [0] 2 S__law_a_number :=
  ⟨⟨f, fd, ["bag", "kind"], hm, def_run F sc__law_a_number rfl (by decide) t__law_a_number (fun cdv A outer s H E B hr hgd => b__law_a_number d__law_draw d__law_wide hr hgd) r__law_a_number, F.bindsN fun _ _ _ _ _ _ us hl => match us, hl with | [_, _], _ => rfl, F.kp⟩⟩
theorem ok__law_a_book {P : Program} {w : World} {K : PySem.W.Frag} {mg : Str → Option Value} {base : Heap} {f : Addr} {fd : FuncData} (F : FunD K "_law_a_book" "_law_a_book" (defArgs s__law_a_book) (defBody s__law_a_book) (defScope s__law_a_book) [] [] f fd) (hm : mg "_law_a_book" = some (.ref f)) (d__law_draw : Def P w K mg base CX0 1 "_law_draw" [0] 2 S__law_draw) (m_min : mg "min" = none) (m_range : mg "range" = none) (d__law_a_number : Def P w K mg base CX0 3 "_law_a_number" [0] 2 S__law_a_number) (m_list : mg "list" = none) (m_len : mg "len" = none) (m_max : mg "max" = none) (m_sum : mg "sum" = none) (m_tuple : mg "tuple" = none) : Def P w K mg base CX0 4 "_law_a_book" [0] 3 S__law_a_book :=
  ⟨⟨f, fd, ["bag", "measures", "most"], hm, def_run F sc__law_a_book rfl (by decide) t__law_a_book (fun cdv A outer s H E B hr hgd => b__law_a_book d__law_draw m_min m_range d__law_a_number m_list m_len m_max m_sum m_tuple hr hgd) r__law_a_book, F.bindsN fun _ _ _ _ _ _ us hl => match us, hl with | [_, _, _], _ => rfl, F.kp⟩⟩
theorem ok__law_a_lean {P : Program} {w : World} {K : PySem.W.Frag} {mg : Str → Option Value} {base : Heap} {f : Addr} {fd : FuncData} (F : FunD K "_law_a_lean" "_law_a_lean" (defArgs s__law_a_lean) (defBody s__law_a_lean) (defScope s__law_a_lean) [] [] f fd) (hm : mg "_law_a_lean" = some (.ref f)) (d__law_draw : Def P w K mg base CX0 1 "_law_draw" [0] 2 S__law_draw) (d__law_wide : Def P w K mg base CX0 2 "_law_wide" [0] 2 S__law_wide) : Def P w K mg base CX0 3 "_law_a_lean" [0] 2 S__law_a_lean :=
  ⟨⟨f, fd, ["bag", "kind"], hm, def_run F sc__law_a_lean rfl (by decide) t__law_a_lean (fun cdv A outer s H E B hr hgd => b__law_a_lean d__law_draw d__law_wide hr hgd) r__law_a_lean, F.bindsN fun _ _ _ _ _ _ us hl => match us, hl with | [_, _], _ => rfl, F.kp⟩⟩
theorem ok__law_some_leans {P : Program} {w : World} {K : PySem.W.Frag} {mg : Str → Option Value} {base : Heap} {f : Addr} {fd : FuncData} (F : FunD K "_law_some_leans" "_law_some_leans" (defArgs s__law_some_leans) (defBody s__law_some_leans) (defScope s__law_some_leans) [] [] f fd) (hm : mg "_law_some_leans" = some (.ref f)) (d__law_draw : Def P w K mg base CX0 1 "_law_draw" [0] 2 S__law_draw) (m_range : mg "range" = none) (d__law_a_lean : Def P w K mg base CX0 3 "_law_a_lean" [0] 2 S__law_a_lean) (m_tuple : mg "tuple" = none) : Def P w K mg base CX0 4 "_law_some_leans" [0] 2 S__law_some_leans :=
  ⟨⟨f, fd, ["bag", "measures"], hm, def_run F sc__law_some_leans rfl (by decide) t__law_some_leans (fun cdv A outer s H E B hr hgd => b__law_some_leans d__law_draw m_range d__law_a_lean m_tuple hr hgd) r__law_some_leans, F.bindsN fun _ _ _ _ _ _ us hl => match us, hl with | [_, _], _ => rfl, F.kp⟩⟩
theorem ok__law_asked {P : Program} {w : World} {K : PySem.W.Frag} {mg : Str → Option Value} {base : Heap} {f : Addr} {fd : FuncData} (F : FunD K "_law_asked" "_law_asked" (defArgs s__law_asked) (defBody s__law_asked) (defScope s__law_asked) [] [] f fd) (hm : mg "_law_asked" = some (.ref f)) (e_best_by : Def P w K mg base (L2.CX P w) 3 "best_by" [] 2 S_best_by) (e_way_of : Def P w K mg base (L2.CX P w) 5 "way_of" [] 3 S_way_of) (e_way_right : Def P w K mg base (L2.CX P w) 4 "way_right" [] 4 S_way_right) (e_sorted_by : Def P w K mg base (L2.CX P w) 3 "sorted_by" [] 2 S_sorted_by) (e_weights_by : Def P w K mg base (L2.CX P w) 2 "weights_by" [] 2 S_weights_by) (e_go_by : Def P w K mg base (L2.CX P w) 3 "go_by" [] 3 S_go_by) (e_shares : Def P w K mg base (L2.CX P w) 5 "shares" [] 2 S_shares) : Def P w K mg base (L2.CX P w) 6 "_law_asked" [] 5 S__law_asked :=
  ⟨⟨f, fd, ["door", "book", "one", "other", "thing"], hm, def_runX F sc__law_asked rfl (by decide) t__law_asked (fun cdv A outer s H E B EX hr hgd tk hp => b__law_asked e_best_by e_way_of e_way_right e_sorted_by e_weights_by e_go_by e_shares hr hgd tk hp) r__law_asked, F.bindsN fun _ _ _ _ _ _ us hl => match us, hl with | [_, _, _, _, _], _ => rfl, F.kp⟩⟩
theorem ok__law_refused_as {P : Program} {w : World} {K : PySem.W.Frag} {mg : Str → Option Value} {base : Heap} {f : Addr} {fd : FuncData} (F : FunD K "_law_refused_as" "_law_refused_as" (defArgs s__law_refused_as) (defBody s__law_refused_as) (defScope s__law_refused_as) [] [] f fd) (hm : mg "_law_refused_as" = some (.ref f)) (g_PointError : mg "PointError" = some (.ref (He.ga K "PointError"))) (xl : ExL K mg LX) (e__law_asked : Def P w K mg base (L2.CX P w) 6 "_law_asked" [] 5 S__law_asked) (m_isinstance : mg "isinstance" = none) (m_ValueError : mg "ValueError" = none) : Def P w K mg base CX0 7 "_law_refused_as" [] 5 S__law_refused_as :=
  ⟨⟨f, fd, ["door", "book", "one", "other", "thing"], hm, def_run0 F sc__law_refused_as rfl (by decide) t__law_refused_as (fun cdv A outer s H E B hr hgd => b__law_refused_as g_PointError xl e__law_asked m_isinstance m_ValueError hr hgd) r__law_refused_as, F.bindsN fun _ _ _ _ _ _ us hl => match us, hl with | [_, _, _, _, _], _ => rfl, F.kp⟩⟩
theorem ok__law_no_leans {P : Program} {w : World} {K : PySem.W.Frag} {mg : Str → Option Value} {base : Heap} {f : Addr} {fd : FuncData} (F : FunD K "_law_no_leans" "_law_no_leans" (defArgs s__law_no_leans) (defBody s__law_no_leans) (defScope s__law_no_leans) [] [] f fd) (hm : mg "_law_no_leans" = some (.ref f)) (d__law_draw : Def P w K mg base CX0 1 "_law_draw" [0] 2 S__law_draw) (m_len : mg "len" = none) (d__law_wide : Def P w K mg base CX0 2 "_law_wide" [0] 2 S__law_wide) : Def P w K mg base CX0 3 "_law_no_leans" [0] 2 S__law_no_leans :=
  ⟨⟨f, fd, ["bag", "leans"], hm, def_run F sc__law_no_leans rfl (by decide) t__law_no_leans (fun cdv A outer s H E B hr hgd => b__law_no_leans d__law_draw m_len d__law_wide hr hgd) r__law_no_leans, F.bindsN fun _ _ _ _ _ _ us hl => match us, hl with | [_, _], _ => rfl, F.kp⟩⟩
theorem ok__law_no_order {P : Program} {w : World} {K : PySem.W.Frag} {mg : Str → Option Value} {base : Heap} {f : Addr} {fd : FuncData} (F : FunD K "_law_no_order" "_law_no_order" (defArgs s__law_no_order) (defBody s__law_no_order) (defScope s__law_no_order) [] [] f fd) (hm : mg "_law_no_order" = some (.ref f)) (d__law_draw : Def P w K mg base CX0 1 "_law_draw" [0] 2 S__law_draw) (m_len : mg "len" = none) (d__law_wide : Def P w K mg base CX0 2 "_law_wide" [0] 2 S__law_wide) : Def P w K mg base CX0 3 "_law_no_order" [0] 2 S__law_no_order :=
  ⟨⟨f, fd, ["bag", "order"], hm, def_run F sc__law_no_order rfl (by decide) t__law_no_order (fun cdv A outer s H E B hr hgd => b__law_no_order d__law_draw m_len d__law_wide hr hgd) r__law_no_order, F.bindsN fun _ _ _ _ _ _ us hl => match us, hl with | [_, _], _ => rfl, F.kp⟩⟩
theorem ok_law {P : Program} {w : World} {K : PySem.W.Frag} {mg : Str → Option Value} {base : Heap} {f : Addr} {fd : FuncData} (F : FunD K "law" "law" (defArgs s_law) (defBody s_law) (defScope s_law) [] [] f fd) (m_enumerate : mg "enumerate" = none) (m_len : mg "len" = none) (d__law_new_bag : Def P w K mg base CX0 1 "_law_new_bag" [] 2 S__law_new_bag) (d__law_draw : Def P w K mg base CX0 1 "_law_draw" [0] 2 S__law_draw) (d__law_no_leans : Def P w K mg base CX0 3 "_law_no_leans" [0] 2 S__law_no_leans) (d__law_some_leans : Def P w K mg base CX0 4 "_law_some_leans" [0] 2 S__law_some_leans) (d__law_no_order : Def P w K mg base CX0 3 "_law_no_order" [0] 2 S__law_no_order) (m_tuple : mg "tuple" = none) (m_range : mg "range" = none) (d__law_a_book : Def P w K mg base CX0 4 "_law_a_book" [0] 3 S__law_a_book) (d_way_of : Def P w K mg base CX0 5 "way_of" [] 3 (nxS S_way_of)) (d__law_refused_as : Def P w K mg base CX0 7 "_law_refused_as" [] 5 S__law_refused_as) (m_int : mg "int" = none) : FnG P w K mg base CX0 8 f fd ["script"] (spV K mg [] 1 (lawS 63)) := def_run F sc_law rfl (by decide) t_law (fun cdv A outer s H E B hr hgd => b_law m_enumerate m_len d__law_new_bag d__law_draw d__law_no_leans d__law_some_leans d__law_no_order m_tuple m_range d__law_a_book d_way_of d__law_refused_as m_int hr hgd) r_law
theorem factsL {P : Program} {w : World} {K : PySem.W.Frag} {h : Heap} {mg : Str → Option Value} {f : Addr} (X : K.In h) (G : h.Ns mainGlobals mg) (hfa : mg ("law" : Str) = some (.ref f)) (c : He.SaysD faL fnL K) (cx : (exB LX K && (fnB FL K && tpB TL K)) = true) :
    ∃ fd : FuncData, (∀ (s : Shared) (v : Value), BindsTo s fd ⟨[v], []⟩ [("script", v)]) ∧ ∀ base : Heap, K.In base → base.Ns mainGlobals mg → FnG P w K mg base CX0 8 f fd ["script"] (spV K mg [] 1 (lawS 63)) := by
  obtain ⟨fd_common_of, F_common_of⟩ := c.def_ 0 (d := D_common_of) rfl
  obtain ⟨fd_lowest, F_lowest⟩ := c.def_ 1 (d := D_lowest) rfl
  obtain ⟨fd_is_leans, F_is_leans⟩ := c.def_ 2 (d := D_is_leans) rfl
  obtain ⟨fd_need_leans, F_need_leans⟩ := c.def_ 3 (d := D_need_leans) rfl
  obtain ⟨fd_sum_by, F_sum_by⟩ := c.def_ 4 (d := D_sum_by) rfl
  obtain ⟨fd_sums_by, F_sums_by⟩ := c.def_ 5 (d := D_sums_by) rfl
  obtain ⟨fd_greatest_in, F_greatest_in⟩ := c.def_ 6 (d := D_greatest_in) rfl
  obtain ⟨fd_best_by, F_best_by⟩ := c.def_ 7 (d := D_best_by) rfl
  obtain ⟨fd_worths_at, F_worths_at⟩ := c.def_ 8 (d := D_worths_at) rfl
  obtain ⟨fd_is_ahead, F_is_ahead⟩ := c.def_ 9 (d := D_is_ahead) rfl
  obtain ⟨fd_break_behind, F_break_behind⟩ := c.def_ 10 (d := D_break_behind) rfl
  obtain ⟨fd_steepest_at, F_steepest_at⟩ := c.def_ 11 (d := D_steepest_at) rfl
  obtain ⟨fd_breaks_of, F_breaks_of⟩ := c.def_ 12 (d := D_breaks_of) rfl
  obtain ⟨fd_bests_between, F_bests_between⟩ := c.def_ 13 (d := D_bests_between) rfl
  obtain ⟨fd_lines_of, F_lines_of⟩ := c.def_ 14 (d := D_lines_of) rfl
  obtain ⟨fd_way_of, F_way_of⟩ := c.def_ 15 (d := D_way_of) rfl
  obtain ⟨fd_is_inner, F_is_inner⟩ := c.def_ 16 (d := D_is_inner) rfl
  obtain ⟨fd_way_right, F_way_right⟩ := c.def_ 17 (d := D_way_right) rfl
  obtain ⟨fd_whole_at, F_whole_at⟩ := c.def_ 18 (d := D_whole_at) rfl
  obtain ⟨fd_many_amid, F_many_amid⟩ := c.def_ 19 (d := D_many_amid) rfl
  obtain ⟨fd_shares, F_shares⟩ := c.def_ 20 (d := D_shares) rfl
  obtain ⟨fd_need_order, F_need_order⟩ := c.def_ 21 (d := D_need_order) rfl
  obtain ⟨fd_turned, F_turned⟩ := c.def_ 22 (d := D_turned) rfl
  obtain ⟨fd_in_order, F_in_order⟩ := c.def_ 23 (d := D_in_order) rfl
  obtain ⟨fd_sorted_by, F_sorted_by⟩ := c.def_ 24 (d := D_sorted_by) rfl
  obtain ⟨fd_spread_in, F_spread_in⟩ := c.def_ 25 (d := D_spread_in) rfl
  obtain ⟨fd_weights_by, F_weights_by⟩ := c.def_ 26 (d := D_weights_by) rfl
  obtain ⟨fd_is_greater_by, F_is_greater_by⟩ := c.def_ 27 (d := D_is_greater_by) rfl
  obtain ⟨fd_go_by, F_go_by⟩ := c.def_ 28 (d := D_go_by) rfl
  obtain ⟨fd__law_new_bag, F__law_new_bag⟩ := c.def_ 29 (d := D__law_new_bag) rfl
  obtain ⟨fd__law_draw, F__law_draw⟩ := c.def_ 30 (d := D__law_draw) rfl
  obtain ⟨fd__law_wide, F__law_wide⟩ := c.def_ 31 (d := D__law_wide) rfl
  obtain ⟨fd__law_a_number, F__law_a_number⟩ := c.def_ 32 (d := D__law_a_number) rfl
  obtain ⟨fd__law_a_book, F__law_a_book⟩ := c.def_ 33 (d := D__law_a_book) rfl
  obtain ⟨fd__law_a_lean, F__law_a_lean⟩ := c.def_ 34 (d := D__law_a_lean) rfl
  obtain ⟨fd__law_some_leans, F__law_some_leans⟩ := c.def_ 35 (d := D__law_some_leans) rfl
  obtain ⟨fd__law_asked, F__law_asked⟩ := c.def_ 36 (d := D__law_asked) rfl
  obtain ⟨fd__law_refused_as, F__law_refused_as⟩ := c.def_ 37 (d := D__law_refused_as) rfl
  obtain ⟨fd__law_no_leans, F__law_no_leans⟩ := c.def_ 38 (d := D__law_no_leans) rfl
  obtain ⟨fd__law_no_order, F__law_no_order⟩ := c.def_ 39 (d := D__law_no_order) rfl
  obtain ⟨fd_law, F_law⟩ := c.def_ 40 (d := D_law) rfl
  have m_abs := He.free_ok X G (c.fact 41 (f := .free "abs") rfl)
  have m_len := He.free_ok X G (c.fact 42 (f := .free "len") rfl)
  have m_all := He.free_ok X G (c.fact 43 (f := .free "all") rfl)
  have m_any := He.free_ok X G (c.fact 44 (f := .free "any") rfl)
  have m_sum := He.free_ok X G (c.fact 45 (f := .free "sum") rfl)
  have m_zip := He.free_ok X G (c.fact 46 (f := .free "zip") rfl)
  have m_max := He.free_ok X G (c.fact 47 (f := .free "max") rfl)
  have m_tuple := He.free_ok X G (c.fact 48 (f := .free "tuple") rfl)
  have m_enumerate := He.free_ok X G (c.fact 49 (f := .free "enumerate") rfl)
  have m_range := He.free_ok X G (c.fact 50 (f := .free "range") rfl)
  have m_list := He.free_ok X G (c.fact 51 (f := .free "list") rfl)
  have m_sorted := He.free_ok X G (c.fact 52 (f := .free "sorted") rfl)
  have m_min := He.free_ok X G (c.fact 53 (f := .free "min") rfl)
  have m_reversed := He.free_ok X G (c.fact 54 (f := .free "reversed") rfl)
  have m_isinstance := He.free_ok X G (c.fact 55 (f := .free "isinstance") rfl)
  have m_ValueError := He.free_ok X G (c.fact 56 (f := .free "ValueError") rfl)
  have m_int := He.free_ok X G (c.fact 57 (f := .free "int") rfl)
  have c_MOST_LEAN := He.int_ok X G (c.fact 58 (f := .int "MOST_LEAN" 1000000000) rfl)
  have c_MOST_SHARES := He.int_ok X G (c.fact 59 (f := .int "MOST_SHARES" 1000000000000) rfl)
  have t_BEGIN := tpI_of X G (band (band cx).2).2 (x := "BEGIN") (ns := [0, 1]) (by decide)
  have t_END := tpI_of X G (band (band cx).2).2 (x := "END") (ns := [1, 1]) (by decide)
  have xl := exL_of X G (band cx).1
  have x_NoWeights : ExcG K mg "NoWeights" := excG_of (xl.glo _ (by decide +kernel)) (c.fact 60 (f := .exc "NoWeights") rfl)
  have x_NoMeasures : ExcG K mg "NoMeasures" := excG_of (xl.glo _ (by decide +kernel)) (c.fact 61 (f := .exc "NoMeasures") rfl)
  have x_NoNumber : ExcG K mg "NoNumber" := excG_of (xl.glo _ (by decide +kernel)) (c.fact 62 (f := .exc "NoNumber") rfl)
  have x_NoOrder : ExcG K mg "NoOrder" := excG_of (xl.glo _ (by decide +kernel)) (c.fact 63 (f := .exc "NoOrder") rfl)
  have g_PointError := He.glo_ok X G (c.fact 64 (f := .glo "PointError") rfl)
  have e := hfa.symm.trans (He.glo_ok X G (c.fact 40 (f := .glo "law") rfl))
  cases e
  refine ⟨fd_law, fun s v => FunD.bindsA (ps := ["script"]) F_law (fun _ _ _ _ _ _ us hl => match us, hl with | [_], _ => rfl) s [v] rfl, fun base _ _ => ?_⟩
  have d_common_of := ok_common_of (P := P) (w := w) (mg := mg) (base := base) F_common_of (He.glo_ok X G (c.fact 0 (f := .glo "common_of") rfl)) 
  have d_lowest := ok_lowest (P := P) (w := w) (mg := mg) (base := base) F_lowest (He.glo_ok X G (c.fact 1 (f := .glo "lowest") rfl)) d_common_of m_abs
  have d_is_leans := ok_is_leans (P := P) (w := w) (mg := mg) (base := base) F_is_leans (He.glo_ok X G (c.fact 2 (f := .glo "is_leans") rfl)) m_len m_all c_MOST_LEAN m_any
  have e_need_leans := ok_need_leans (P := P) (w := w) (mg := mg) (base := base) F_need_leans (He.glo_ok X G (c.fact 3 (f := .glo "need_leans") rfl)) d_is_leans x_NoWeights
  have d_need_leans := e_need_leans.calm
  have d_sum_by := ok_sum_by (P := P) (w := w) (mg := mg) (base := base) F_sum_by (He.glo_ok X G (c.fact 4 (f := .glo "sum_by") rfl)) m_sum m_zip
  have d_sums_by := ok_sums_by (P := P) (w := w) (mg := mg) (base := base) F_sums_by (He.glo_ok X G (c.fact 5 (f := .glo "sums_by") rfl)) d_sum_by
  have d_greatest_in := ok_greatest_in (P := P) (w := w) (mg := mg) (base := base) F_greatest_in (He.glo_ok X G (c.fact 6 (f := .glo "greatest_in") rfl)) m_max m_tuple m_enumerate
  have e_best_by := ok_best_by (P := P) (w := w) (mg := mg) (base := base) F_best_by (He.glo_ok X G (c.fact 7 (f := .glo "best_by") rfl)) e_need_leans d_greatest_in d_sums_by
  have d_best_by := e_best_by.calm
  have d_worths_at := ok_worths_at (P := P) (w := w) (mg := mg) (base := base) F_worths_at (He.glo_ok X G (c.fact 8 (f := .glo "worths_at") rfl)) 
  have d_is_ahead := ok_is_ahead (P := P) (w := w) (mg := mg) (base := base) F_is_ahead (He.glo_ok X G (c.fact 9 (f := .glo "is_ahead") rfl)) 
  have d_break_behind := ok_break_behind (P := P) (w := w) (mg := mg) (base := base) F_break_behind (He.glo_ok X G (c.fact 10 (f := .glo "break_behind") rfl)) d_lowest d_is_ahead
  have d_steepest_at := ok_steepest_at (P := P) (w := w) (mg := mg) (base := base) F_steepest_at (He.glo_ok X G (c.fact 11 (f := .glo "steepest_at") rfl)) m_zip d_worths_at m_max
  have d_breaks_of := ok_breaks_of (P := P) (w := w) (mg := mg) (base := base) F_breaks_of (He.glo_ok X G (c.fact 12 (f := .glo "breaks_of") rfl)) m_max t_BEGIN m_range m_len d_break_behind d_steepest_at m_tuple
  have d_bests_between := ok_bests_between (P := P) (w := w) (mg := mg) (base := base) F_bests_between (He.glo_ok X G (c.fact 13 (f := .glo "bests_between") rfl)) t_BEGIN t_END d_greatest_in d_worths_at m_tuple m_zip
  have e_lines_of := ok_lines_of (P := P) (w := w) (mg := mg) (base := base) F_lines_of (He.glo_ok X G (c.fact 14 (f := .glo "lines_of") rfl)) e_need_leans m_list m_zip d_sums_by
  have d_lines_of := e_lines_of.calm
  have e_way_of := ok_way_of (P := P) (w := w) (mg := mg) (base := base) F_way_of (He.glo_ok X G (c.fact 15 (f := .glo "way_of") rfl)) e_lines_of d_breaks_of d_bests_between
  have d_way_of := e_way_of.calm
  have d_is_inner := ok_is_inner (P := P) (w := w) (mg := mg) (base := base) F_is_inner (He.glo_ok X G (c.fact 16 (f := .glo "is_inner") rfl)) d_lowest
  have e_way_right := ok_way_right (P := P) (w := w) (mg := mg) (base := base) F_way_right (He.glo_ok X G (c.fact 17 (f := .glo "way_right") rfl)) e_lines_of m_all d_is_inner m_zip d_is_ahead m_len d_bests_between
  have d_way_right := e_way_right.calm
  have d_whole_at := ok_whole_at (P := P) (w := w) (mg := mg) (base := base) F_whole_at (He.glo_ok X G (c.fact 18 (f := .glo "whole_at") rfl)) 
  have d_many_amid := ok_many_amid (P := P) (w := w) (mg := mg) (base := base) F_many_amid (He.glo_ok X G (c.fact 19 (f := .glo "many_amid") rfl)) 
  have e_shares := ok_shares (P := P) (w := w) (mg := mg) (base := base) F_shares (He.glo_ok X G (c.fact 20 (f := .glo "shares") rfl)) x_NoMeasures c_MOST_SHARES x_NoNumber m_len d_breaks_of t_BEGIN t_END d_whole_at d_greatest_in d_worths_at m_zip d_bests_between d_many_amid m_tuple
  have d_shares := e_shares.calm
  have e_need_order := ok_need_order (P := P) (w := w) (mg := mg) (base := base) F_need_order (He.glo_ok X G (c.fact 21 (f := .glo "need_order") rfl)) m_sorted m_list m_range x_NoOrder
  have d_need_order := e_need_order.calm
  have d_turned := ok_turned (P := P) (w := w) (mg := mg) (base := base) F_turned (He.glo_ok X G (c.fact 22 (f := .glo "turned") rfl)) m_tuple
  have d_in_order := ok_in_order (P := P) (w := w) (mg := mg) (base := base) F_in_order (He.glo_ok X G (c.fact 23 (f := .glo "in_order") rfl)) m_sorted m_enumerate d_turned
  have e_sorted_by := ok_sorted_by (P := P) (w := w) (mg := mg) (base := base) F_sorted_by (He.glo_ok X G (c.fact 24 (f := .glo "sorted_by") rfl)) e_need_order m_tuple d_in_order
  have d_sorted_by := e_sorted_by.calm
  have d_spread_in := ok_spread_in (P := P) (w := w) (mg := mg) (base := base) F_spread_in (He.glo_ok X G (c.fact 25 (f := .glo "spread_in") rfl)) m_max m_min
  have e_weights_by := ok_weights_by (P := P) (w := w) (mg := mg) (base := base) F_weights_by (He.glo_ok X G (c.fact 26 (f := .glo "weights_by") rfl)) e_need_order m_reversed d_spread_in m_tuple
  have d_weights_by := e_weights_by.calm
  have d_is_greater_by := ok_is_greater_by (P := P) (w := w) (mg := mg) (base := base) F_is_greater_by (He.glo_ok X G (c.fact 27 (f := .glo "is_greater_by") rfl)) d_sum_by
  have e_go_by := ok_go_by (P := P) (w := w) (mg := mg) (base := base) F_go_by (He.glo_ok X G (c.fact 28 (f := .glo "go_by") rfl)) e_need_order m_len m_all d_in_order m_zip d_is_greater_by
  have d_go_by := e_go_by.calm
  have d__law_new_bag := ok__law_new_bag (P := P) (w := w) (mg := mg) (base := base) F__law_new_bag (He.glo_ok X G (c.fact 29 (f := .glo "_law_new_bag") rfl)) 
  have d__law_draw := ok__law_draw (P := P) (w := w) (mg := mg) (base := base) F__law_draw (He.glo_ok X G (c.fact 30 (f := .glo "_law_draw") rfl)) 
  have d__law_wide := ok__law_wide (P := P) (w := w) (mg := mg) (base := base) F__law_wide (He.glo_ok X G (c.fact 31 (f := .glo "_law_wide") rfl)) d__law_draw
  have d__law_a_number := ok__law_a_number (P := P) (w := w) (mg := mg) (base := base) F__law_a_number (He.glo_ok X G (c.fact 32 (f := .glo "_law_a_number") rfl)) d__law_draw d__law_wide
  have d__law_a_book := ok__law_a_book (P := P) (w := w) (mg := mg) (base := base) F__law_a_book (He.glo_ok X G (c.fact 33 (f := .glo "_law_a_book") rfl)) d__law_draw m_min m_range d__law_a_number m_list m_len m_max m_sum m_tuple
  have d__law_a_lean := ok__law_a_lean (P := P) (w := w) (mg := mg) (base := base) F__law_a_lean (He.glo_ok X G (c.fact 34 (f := .glo "_law_a_lean") rfl)) d__law_draw d__law_wide
  have d__law_some_leans := ok__law_some_leans (P := P) (w := w) (mg := mg) (base := base) F__law_some_leans (He.glo_ok X G (c.fact 35 (f := .glo "_law_some_leans") rfl)) d__law_draw m_range d__law_a_lean m_tuple
  have e__law_asked := ok__law_asked (P := P) (w := w) (mg := mg) (base := base) F__law_asked (He.glo_ok X G (c.fact 36 (f := .glo "_law_asked") rfl)) e_best_by e_way_of e_way_right e_sorted_by e_weights_by e_go_by e_shares
  have d__law_asked := e__law_asked.calm
  have d__law_refused_as := ok__law_refused_as (P := P) (w := w) (mg := mg) (base := base) F__law_refused_as (He.glo_ok X G (c.fact 37 (f := .glo "_law_refused_as") rfl)) g_PointError xl e__law_asked m_isinstance m_ValueError
  have d__law_no_leans := ok__law_no_leans (P := P) (w := w) (mg := mg) (base := base) F__law_no_leans (He.glo_ok X G (c.fact 38 (f := .glo "_law_no_leans") rfl)) d__law_draw m_len d__law_wide
  have d__law_no_order := ok__law_no_order (P := P) (w := w) (mg := mg) (base := base) F__law_no_order (He.glo_ok X G (c.fact 39 (f := .glo "_law_no_order") rfl)) d__law_draw m_len d__law_wide
  exact ok_law F_law m_enumerate m_len d__law_new_bag d__law_draw d__law_no_leans d__law_some_leans d__law_no_order m_tuple m_range d__law_a_book d_way_of d__law_refused_as m_int
end U
open PySem PySem.W PySem.Calls PyProof.Rows
theorem PySem.Challenge.cw_unbeaten_k52_no_leans_no_orders_holds : PySem.Challenge.rw_unbeaten_k52_no_leans_no_orders.Holds := by
  w_on; o_law
  refine HandSHeadRun.head_any (r := OpenLaw.row PySem.Challenge.rw_unbeaten_k52_no_leans_no_orders) (q := view (OpenLaw.row PySem.Challenge.rw_unbeaten_k52_no_leans_no_orders).prog [66]) (H := U.hkL) (ob := U.obL) (M := 30000) (loose := U.looseL) (d := HandSHeadRun.topDef (OpenLaw.row PySem.Challenge.rw_unbeaten_k52_no_leans_no_orders).prog 66) (kwd := []) U.obL_eq
    (by kernel_rfl) (fun s => by kernel_rfl) U.runL (by kernel_rfl) (by kernel_rfl) (by kernel_rfl) (by rfl) (by first | assumption | decide +kernel) (by decide +kernel) ⟨rfl, rfl, rfl, rfl, rfl, by decide +kernel⟩ ?hw ?hc
  case hw => w_witness2
  case hc =>
    refine DL.walk_ofG (l := PySem.Challenge.rw_unbeaten_k52_no_leans_no_orders) (n := 63) (k := 8) (x := "script") (lk := []) (CX := L2.CX0) rfl (by decide) (by kernel_rfl) ⟨rfl, by decide, by decide⟩ ?F (fun _ _ _ _ z => z)
    intro w mg fa h Y G hmg0
    obtain ⟨K, KX, c⟩ := Y
    have hmg : mg ("law" : PySem.Str) = some (.ref fa) := by
      have e : (HandSHeadRun.topDef (OpenLaw.row PySem.Challenge.rw_unbeaten_k52_no_leans_no_orders).prog 66).name = ("law" : PySem.Str) := by kernel_rfl
      rw [← e]
      exact hmg0
    obtain ⟨c, cx⟩ := c
    obtain ⟨fd, hb, hF⟩ := U.factsL (P := (PySem.Challenge.rw_unbeaten_k52_no_leans_no_orders).prog) (w := w) KX G hmg c cx
    exact ⟨K, fd, KX, hb, hF⟩
